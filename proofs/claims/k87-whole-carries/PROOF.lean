import PyProof.Rows.All
import Wide.All
import OpenK.AllK
import Wide.FinOn
import HandS.ForMost
import HandS.Exc
import HandS.TryOnly
import HandS.ExcOwn
import HandS.WordsExc
import HandS.Wide
import HandS.IsInst
import HandS.TupAny
import HandS.TupMul
import HandS.SortInts
import HandS.Style
import HandS.Lambda
import HandS.ExcCtx
import HandS.ExcInit
import HandS.Walk
import HandS.Zip
import HandS.RaiseMore
import HandS.Hot
import HandS.HotCalls
import KE.KExcIs
import HandS.ExcField
import PyProof.LongRange
import HandS.Dict
import HandS.EndTab
import KE.GoesMore
import KE.GoesZip
import KE.GoesEnum
import KE.KTupSum
import PySem.Challenge.RW_paidornot_k87_whole_carries
section
set_option linter.all false
namespace VL
open PySem PySem.Spec PyProof.Rows
/-- the tables of code objects that grow (of the defs with lambdas), and the lambdas' name -/
def lamT : List (Addr × Str) := [(274, "_law_are_refused.<locals>.<lambda>")]
end VL
end

section
set_option Elab.async false
set_option linter.all false
set_option maxRecDepth 100000
set_option maxHeartbeats 4000000
namespace VL
open PySem PySem.Spec PyProof.Rows L2

/-! ### data, and what bears it -/
inductive D where
  | non | bl (b : Bool) | int (i : Int) | str (x : Str)
  | tup (l : List D) | lst (l : List D)
  /-- a list that is read alone (the script) -/
  | frl (l : List D)
  | dic (l : List (Key × D))
  | ty (n : String) | adr (a : Addr)
  | ins (C : Addr) (fs : List (Str × D))
  /-- a caught exception with its dict -/
  | exc (a dx : Addr) (fs : List (Str × D))

def Ex (H H' : Hp) : Prop := ∀ a o, H a = some o → H' a = some o
theorem Ex.refl (H : Hp) : Ex H H := fun _ _ h => h
theorem Ex.trans {H H1 H2 : Hp} (a : Ex H H1) (b : Ex H1 H2) : Ex H H2 := fun x o h => b x o (a x o h)
theorem Ex.rd {H H' : Hp} {a : Addr} {u : HO} (e : Ex H H') (h : Rd H a u) : Rd H' a u := by
  rcases h with h | ⟨o, h⟩
  · exact Or.inl (e a _ h)
  · exact Or.inr ⟨o, e a _ h⟩
theorem Ex.l {K : PySem.W.Frag} {H H' : Hp} {a : Addr} {xs : List V} (e : Ex H H') (h : SqL K H a xs) : SqL K H' a xs := by
  rcases h with h | h
  · exact Or.inl (e.rd h)
  · exact Or.inr h
theorem Ex.t {K : PySem.W.Frag} {H H' : Hp} {a : Addr} {xs : List V} (e : Ex H H') (h : SqT K H a xs) : SqT K H' a xs := by
  rcases h with h | h
  · exact Or.inl (e.rd h)
  · exact Or.inr h

mutual
inductive Rep (K : PySem.W.Frag) (H : Hp) : V → D → Prop
  | non : Rep K H .non .non
  | bl (b : Bool) : Rep K H (.bl b) (.bl b)
  | int (i : Int) : Rep K H (.int i) (.int i)
  | str (x : Str) : Rep K H (.str x) (.str x)
  | ty (n : String) : Rep K H (.ty n) (.ty n)
  | adr (a : Addr) : Rep K H (.ref a) (.adr a)
  | tup {a : Addr} {vs : List V} {ds : List D} : SqT K H a vs → Reps K H vs ds → Rep K H (.ref a) (.tup ds)
  | lst {a : Addr} {vs : List V} {ds : List D} : H a = some (.lst vs) → Reps K H vs ds → Rep K H (.ref a) (.lst ds)
  | frl {a : Addr} {vs : List V} {ds : List D} : SqL K H a vs → Reps K H vs ds → Rep K H (.ref a) (.frl ds)
  | dic {a : Addr} {kvs : List (Key × V)} {ds : List (Key × D)} : H a = some (.dK kvs) → RepK K H kvs ds → Rep K H (.ref a) (.dic ds)
  | ins {a C dx : Addr} {fvs : List (Str × V)} {fs : List (Str × D)} : H a = some (.ins C dx fvs) → RepF K H fvs fs → Rep K H (.ref a) (.ins C fs)
  | exc {a dx : Addr} {fvs : List (Str × V)} {fs : List (Str × D)} : H dx = some (.xd fvs) → RepF K H fvs fs → Rep K H (.ref a) (.exc a dx fs)
inductive Reps (K : PySem.W.Frag) (H : Hp) : List V → List D → Prop
  | nil : Reps K H [] []
  | cons {v : V} {vs : List V} {d : D} {ds : List D} : Rep K H v d → Reps K H vs ds → Reps K H (v :: vs) (d :: ds)
inductive RepK (K : PySem.W.Frag) (H : Hp) : List (Key × V) → List (Key × D) → Prop
  | nil : RepK K H [] []
  | cons {k : Key} {v : V} {vs : List (Key × V)} {d : D} {ds : List (Key × D)} : Rep K H v d → RepK K H vs ds → RepK K H ((k, v) :: vs) ((k, d) :: ds)
inductive RepF (K : PySem.W.Frag) (H : Hp) : List (Str × V) → List (Str × D) → Prop
  | nil : RepF K H [] []
  | cons {k : Str} {v : V} {vs : List (Str × V)} {d : D} {ds : List (Str × D)} : Rep K H v d → RepF K H vs ds → RepF K H ((k, v) :: vs) ((k, d) :: ds)
end

section
variable {K : PySem.W.Frag} {H H' : Hp}
mutual
theorem Rep.mono (e : Ex H H') : ∀ {v : V} {d : D}, Rep K H v d → Rep K H' v d
  | _, _, .non => .non
  | _, _, .bl b => .bl b
  | _, _, .int i => .int i
  | _, _, .str x => .str x
  | _, _, .ty n => .ty n
  | _, _, .adr a => .adr a
  | _, _, .tup h r => .tup (e.t h) (Reps.mono e r)
  | _, _, .lst h r => .lst (e _ _ h) (Reps.mono e r)
  | _, _, .frl h r => .frl (e.l h) (Reps.mono e r)
  | _, _, .dic h r => .dic (e _ _ h) (RepK.mono e r)
  | _, _, .ins h r => .ins (e _ _ h) (RepF.mono e r)
  | _, _, .exc h r => .exc (e _ _ h) (RepF.mono e r)
theorem Reps.mono (e : Ex H H') : ∀ {v : List V} {d : List D}, Reps K H v d → Reps K H' v d
  | _, _, .nil => .nil
  | _, _, .cons h r => .cons (Rep.mono e h) (Reps.mono e r)
theorem RepK.mono (e : Ex H H') : ∀ {v : List (Key × V)} {d : List (Key × D)}, RepK K H v d → RepK K H' v d
  | _, _, .nil => .nil
  | _, _, .cons h r => .cons (Rep.mono e h) (RepK.mono e r)
theorem RepF.mono (e : Ex H H') : ∀ {v : List (Str × V)} {d : List (Str × D)}, RepF K H v d → RepF K H' v d
  | _, _, .nil => .nil
  | _, _, .cons h r => .cons (Rep.mono e h) (RepF.mono e r)
end
theorem Reps.length : ∀ {v : List V} {d : List D}, Reps K H v d → v.length = d.length
  | _, _, .nil => rfl
  | _, _, .cons _ r => by rw [List.length_cons, List.length_cons, r.length]
theorem Reps.get : ∀ {vs : List V} {ds : List D} {i : Nat} {d : D}, Reps K H vs ds → ds[i]? = some d → ∃ v, vs[i]? = some v ∧ Rep K H v d
  | _, _, i, d, .nil, e => by simp at e
  | _, _, 0, d, .cons h _, e => by
    rw [List.getElem?_cons_zero] at e
    cases e
    exact ⟨_, rfl, h⟩
  | _, _, i + 1, d, .cons _ r, e => by
    rw [List.getElem?_cons_succ] at e
    obtain ⟨v, e1, h⟩ := r.get e
    exact ⟨v, by rw [List.getElem?_cons_succ]; exact e1, h⟩
theorem Reps.get' : ∀ {vs : List V} {ds : List D} {i : Nat} {v : V}, Reps K H vs ds → vs[i]? = some v → ∃ d, ds[i]? = some d ∧ Rep K H v d
  | _, _, i, d, .nil, e => by simp at e
  | _, _, 0, d, .cons h _, e => by
    rw [List.getElem?_cons_zero] at e
    cases e
    exact ⟨_, rfl, h⟩
  | _, _, i + 1, d, .cons _ r, e => by
    rw [List.getElem?_cons_succ] at e
    obtain ⟨v, e1, h⟩ := r.get' e
    exact ⟨v, by rw [List.getElem?_cons_succ]; exact e1, h⟩
theorem Reps.append : ∀ {vs ws : List V} {ds es : List D}, Reps K H vs ds → Reps K H ws es → Reps K H (vs ++ ws) (ds ++ es)
  | _, _, _, _, .nil, r => r
  | _, _, _, _, .cons h t, r => .cons h (t.append r)
theorem Reps.one {v : V} {d : D} (h : Rep K H v d) : Reps K H [v] [d] := .cons h .nil
theorem Reps.take : ∀ {vs : List V} {ds : List D} (n : Nat), Reps K H vs ds → Reps K H (vs.take n) (ds.take n)
  | _, _, 0, _ => by rw [List.take_zero, List.take_zero]; exact .nil
  | _, _, n + 1, .nil => by rw [List.take_nil, List.take_nil]; exact .nil
  | _, _, n + 1, .cons h r => by rw [List.take_succ_cons, List.take_succ_cons]; exact .cons h (r.take n)
theorem Reps.drop : ∀ {vs : List V} {ds : List D} (n : Nat), Reps K H vs ds → Reps K H (vs.drop n) (ds.drop n)
  | _, _, 0, r => by rw [List.drop_zero, List.drop_zero]; exact r
  | _, _, n + 1, .nil => by rw [List.drop_nil, List.drop_nil]; exact .nil
  | _, _, n + 1, .cons h r => by rw [List.drop_succ_cons, List.drop_succ_cons]; exact r.drop n
theorem Reps.set : ∀ {vs : List V} {ds : List D} (n : Nat) {v : V} {d : D}, Rep K H v d → Reps K H vs ds → Reps K H (vs.set n v) (ds.set n d)
  | _, _, _, _, _, _, .nil => .nil
  | _, _, 0, _, _, q, .cons _ r => .cons q r
  | _, _, n + 1, _, _, q, .cons h r => .cons h (r.set n q)
theorem Reps.replicate {v : V} {d : D} (h : Rep K H v d) : ∀ n : Nat, Reps K H (List.replicate n v) (List.replicate n d)
  | 0 => .nil
  | n + 1 => by rw [List.replicate_succ, List.replicate_succ]; exact .cons h (Reps.replicate h n)
theorem Reps.dropLast : ∀ {vs : List V} {ds : List D}, Reps K H vs ds → Reps K H vs.dropLast ds.dropLast := fun {vs ds} r => by
  rw [List.dropLast_eq_take, List.dropLast_eq_take, r.length]
  exact r.take _
theorem Reps.reverse : ∀ {vs : List V} {ds : List D}, Reps K H vs ds → Reps K H vs.reverse ds.reverse
  | _, _, .nil => .nil
  | _, _, .cons h r => by
    rw [List.reverse_cons, List.reverse_cons]
    exact r.reverse.append (.one h)
theorem Reps.ints : ∀ {vs : List V} {ns : List Int}, Reps K H vs (ns.map D.int) → vs = ns.map V.int
  | vs, [], r => by cases r; rfl
  | vs, n :: ns, r => by
    rw [List.map_cons] at r
    cases r with
    | cons h t => cases h; rw [t.ints, List.map_cons]
theorem Reps.bls : ∀ {vs : List V} {ns : List Bool}, Reps K H vs (ns.map D.bl) → vs = ns.map V.bl
  | vs, [], r => by cases r; rfl
  | vs, n :: ns, r => by
    rw [List.map_cons] at r
    cases r with
    | cons h t => cases h; rw [t.bls, List.map_cons]
theorem Reps.ofInts : ∀ ns : List Int, Reps K H (ns.map V.int) (ns.map D.int)
  | [] => .nil
  | n :: ns => .cons (.int n) (Reps.ofInts ns)
theorem Reps.ofBls : ∀ ns : List Bool, Reps K H (ns.map V.bl) (ns.map D.bl)
  | [] => .nil
  | n :: ns => .cons (.bl n) (Reps.ofBls ns)
end

/-! ### hidden addresses, slots, states -/
/-- no table -/
class NT (o : HO) : Prop where
  nt : ∀ ps, o ≠ .tbl ps
instance {vs : List V} : NT (.lst vs) := ⟨fun _ z => by cases z⟩
instance {vs : List V} : NT (.tup vs) := ⟨fun _ z => by cases z⟩
instance {o : Obj} {u : HO} : NT (.frz o u) := ⟨fun _ z => by cases z⟩
instance {C dx : Addr} {fs : List (Str × V)} : NT (.ins C dx fs) := ⟨fun _ z => by cases z⟩
instance {kvs : List (Key × V)} : NT (.dK kvs) := ⟨fun _ z => by cases z⟩
instance {kvs : List (Str × V)} : NT (.xd kvs) := ⟨fun _ z => by cases z⟩
open Classical in
/-- what is seen: neither what U hides nor tables -/
noncomputable def hid (U : Addr → Prop) (H : Hp) : Hp := fun a => if U a ∨ ∃ ps, H a = some (.tbl ps) then none else H a
theorem hid_of {U : Addr → Prop} {H : Hp} {a : Addr} {o : HO} [t : NT o] (n : ¬ U a) (h : H a = some o) : hid U H a = some o := by
  unfold hid
  rw [if_neg (fun z => z.elim n fun ⟨ps, z⟩ => t.nt ps (Option.some.inj (h.symm.trans z)))]; exact h
theorem of_hid {U : Addr → Prop} {H : Hp} {a : Addr} {o : HO} (h : hid U H a = some o) : ¬ U a ∧ H a = some o := by
  unfold hid at h
  split at h
  · cases h
  · rename_i n
    exact ⟨fun z => n (.inl z), h⟩
theorem nt_hid {U : Addr → Prop} {H : Hp} {a : Addr} {o : HO} (h : hid U H a = some o) : NT o := ⟨fun ps e => by
  unfold hid at h
  split at h
  · cases h
  · rename_i n
    exact n (.inr ⟨ps, by rw [h, e]⟩)⟩
theorem hid_ex {U : Addr → Prop} {H : Hp} : Ex (hid U H) H := fun _ _ h => (of_hid h).2
theorem ex_hid {U U' : Addr → Prop} {H H' : Hp} (e : ∀ a o, NT o → ¬ U a → H a = some o → ¬ U' a ∧ H' a = some o) : Ex (hid U H) (hid U' H') := fun a o h => by
  obtain ⟨n, q⟩ := of_hid h
  have t := nt_hid h
  obtain ⟨n', q'⟩ := e a o t n q
  exact hid_of n' q'
/-- all but the tables stay -/
def ExN (H H' : Hp) : Prop := ∀ a o, NT o → H a = some o → H' a = some o
theorem ExN.trans {H H1 H2 : Hp} (a : ExN H H1) (b : ExN H1 H2) : ExN H H2 := fun x o t h => b x o t (a x o t h)
theorem Ex.nt {H H' : Hp} (e : Ex H H') : ExN H H' := fun a o _ h => e a o h
/-- the lambdas' tables -/
abbrev TB (H : Hp) : Prop := LamX.Tabs lamT H
theorem TB.ex {H H' : Hp} (t : TB H) (e : Ex H H') : TB H' := LamX.Tabs.ext t e
/-- what stands where a list stood -/
theorem TB.at {H H' : Hp} {q : Addr} {vs : List V} (t : TB H) (hq : H q = some (.lst vs)) (e : ∀ a, a ≠ q → H' a = H a) : TB H' := fun p hp => by
  obtain ⟨ps, h1, h2, h3⟩ := t p hp
  refine ⟨ps, by rw [e _ (ne_of h1 hq (fun z => by cases z))]; exact h1, h2, fun pos cv hc => ?_⟩
  obtain ⟨c, e1, e2⟩ := h3 pos cv hc
  exact ⟨c, e1, by rw [e _ (ne_of e2 hq (fun z => by unfold LamX.CodeO at z; cases z))]; exact e2⟩
/-- nothing is let out -/
theorem passLN {X : Cx} : Passes (L2N.CX X.prog X.w) X E0 := fun _ _ _ _ _ _ _ h => by
  obtain ⟨_, _, _, _, _, _, _, _, _, _, _, _, z⟩ := h
  exact z.elim
theorem Fun.okXN {P : Program} {w : World} {K : PySem.W.Frag} {mg : Str → Option Value} {base : Heap} {x qual : Str} {st : Stmt} {f : Addr} {fd : FuncData} {N ps : List Str} {k : Nat} {sp : Sp} (F : Fun K x qual st f fd) (S : FnScope N ps (defScope st)) (len : ∀ vs H Q E, sp vs H Q E → vs.length = ps.length)
    (hbody : ∀ (cdv : Value) (A : Around) (outer : List Env) (s : Shared) (H : Hp) (vs : List V) (Q : VK) (E : XK), Room k (A.deeper (envOfC qual (defScope st) s.heap.objs.size f cdv)) → sp vs H Q E →
      ∃ t, PSs (cxOf (L2N.CX P w) P w K mg base N qual (defScope st) f cdv A outer s H E) (defBody st) t ∧ t { nx := fun _ H' => Q .non H', rt := Q } (start N vs) H) : FnOk P w K mg base (L2N.CX P w) (k + 1) f fd ps sp := by
  obtain ⟨oc, od, kV, doc, pm, an, cdv, ct, osl, rfl, lk, hcd⟩ := F.ex
  exact fn_of lk hcd S len fun A outer s H vs Q E hr hsp => hbody cdv A outer s H vs Q E hr hsp
theorem Fun.okXC {P : Program} {w : World} {K : PySem.W.Frag} {mg : Str → Option Value} {base : Heap} {x qual : Str} {st : Stmt} {f : Addr} {fd : FuncData} {N ps : List Str} {k : Nat} {sp : Sp} (F : Fun K x qual st f fd) (S : FnScope N ps (defScope st)) (len : ∀ vs H Q E, sp vs H Q E → vs.length = ps.length)
    (hbody : ∀ (cdv : Value), fd.code = cdv → ∀ (A : Around) (outer : List Env) (s : Shared) (H : Hp) (vs : List V) (Q : VK) (E : XK), Room k (A.deeper (envOfC qual (defScope st) s.heap.objs.size f cdv)) → sp vs H Q E →
      ∃ t, PSs (cxOf (L2N.CX P w) P w K mg base N qual (defScope st) f cdv A outer s H E) (defBody st) t ∧ t { nx := fun _ H' => Q .non H', rt := Q } (start N vs) H) : FnOk P w K mg base (L2N.CX P w) (k + 1) f fd ps sp := by
  obtain ⟨oc, od, kV, doc, pm, an, cdv, ct, osl, rfl, lk, hcd⟩ := F.ex
  exact fn_of lk hcd S len fun A outer s H vs Q E hr hsp => hbody cdv rfl A outer s H vs Q E hr hsp
/-- an own exception with an __init__ -/
theorem pmk_oexN {X : Cx} {e : Expr} {es : List Expr} {ta : TA} {p pos : Pos} {CX : CXT} {x : Str} {C fI : Addr} {k : Nat} {fd : FuncData} {ps : List Str} {sp : Sp} {ds : List Value} {dvs : List V} (T : OexC X.K C) (iC : PySem.W.findIn X.K (.ref C) "__init__" = some (some (.ref fI))) (tI : PySem.W.typeIn X.K (.ref fI) = some (.type "function"))
    (F1 : FnOk X.prog X.w X.K X.mg X.base CX k fI fd ps sp) (hr : Room (k + 1) X.A) (hb : Binds X.K fd ps ds) (hd : Vals dvs ds) (hx : Passes CX X (fun _ _ _ => False)) (hg : Gl X x) (hm : X.mg x = some (.ref C)) (ha : PA X (e :: es) ta)
    (hdb : (x == ("__debug__" : Str)) = false := by decide) (he : starEach (e :: es) X.env = (false, eval e X.env) :: starEach es X.env := by rfl) (hpl : (backTo pos (starEach es X.env)).any (·.1) = false := by rfl) :
    L2N.PMk X (.Call (.Name x p) (e :: es) [] pos) (tMkO C sp dvs ta) := by
  intro pins s σ H Q I h
  obtain ⟨nm, q, N, bs, bm, sn, sub, ab, col, dd, k0, k1, k2, k3, k5, hC, hbm⟩ := T.cls
  refine wpAny_Call_Name_kw (ld_glob I hg hm ?_ hdb)
  refine PySem.W.callWith_K (h₀ := X.base) I.ok.mod.kin T.kC (thn (ha.run pos pins s σ H _ I h) fun us s1 ⟨vs, H1, I1, r1, hz, q1⟩ => ⟨I1.kIn, ?_⟩) he hpl
  show wpAny _ _ (call (.ref C) us) _ _ _
  obtain ⟨hp, g, dr, tk, os⟩ := s1
  have hsz : hp.objs.size ≤ hp.objs.size + 1 := Nat.le_succ _
  have hn : H1 (hp.objs.size + 1) = none := I1.hok.fresh hsz
  have hq := q1 (hp.objs.size + 1) hn
  have kk : ∀ b o, hp.get? b = some o → ((hp.push (PySem.W.kdv_tup us)).push (PySem.HandSPX.excO C hp.objs.size)).get? b = some o := fun b o e => Heap.get?_push_of_some _ (Heap.get?_push_of_some _ e)
  have hget : ((hp.push (PySem.W.kdv_tup us)).push (PySem.HandSPX.excO C hp.objs.size)).get? (hp.objs.size + 1) = some (PySem.HandSPX.excO C hp.objs.size) := by heap_get
  have I2 : Inv X pins σ (upd H1 (hp.objs.size + 1) (exo (hp.objs.size + 1) C none)) ⟨(hp.push (PySem.W.kdv_tup us)).push (PySem.HandSPX.excO C hp.objs.size), g, dr, tk, os⟩ :=
    I1.laid (t' := tk) (a := hp.objs.size + 1) (o := exo (hp.objs.size + 1) C none) (h' := (hp.push (PySem.W.kdv_tup us)).push (PySem.HandSPX.excO C hp.objs.size)) kk hsz (exo_ok hget)
  have r2 : Vals (V.ref (hp.objs.size + 1) :: (vs ++ dvs)) (Value.ref (hp.objs.size + 1) :: (us ++ ds)) := .cons rfl (r1.append hd)
  have hl : (Value.ref (hp.objs.size + 1) :: us ++ ds).length = ps.length := by
    have e := r2.length
    rw [F1.len _ _ _ _ hq] at e
    exact e.symm
  have hus : us.length ≤ sizeLine := by
    rw [← Paired.length r1, sizeLine_eq]
    omega
  refine wpAny_call (PySem.HandSPX.call_own F.excBase_ValueError (fun Y => PySem.HandSPX.refsVE_contains Y bm hbm) (I1.kIn _ _ hC) (PySem.W.looks_findIn I1.kIn iC) (fun self => PySem.W.bind_fn I1.kIn self tI) hus
    (codeAny_mono (F1.run _ X.stack _ _ ⟨Value.ref (hp.objs.size + 1) :: us, []⟩ (Value.ref (hp.objs.size + 1) :: (us ++ ds)) _ _ (fun _ _ _ => False) (hr.make C us []) (I2.env0.make C us []) (hb _ (Value.ref (hp.objs.size + 1) :: us) I2.kIn hl) r2 hq) fun r s' hq' => ?_))
  cases r with
  | error er => exact hx pins σ _ _ er s' I2 hq'
  | ok fl =>
    cases fl with
    | ret u =>
      obtain ⟨v, H2, os2, bare2, un2, hok2, rv, ev, d, fs, ea, ed, hd1, q2⟩ := hq'
      subst ev
      obtain ⟨h2, g2, d2, t2, os'⟩ := s'
      obtain ⟨t0, G, J, kG, ge, hoe, na⟩ := mk_end0 (d2 := d2) (t2 := t2) I1 hsz kk un2 hok2 os2 bare2 ea ed hd1
      exact ⟨rv, _, _, _, ⟨G, g2, d2, t2, os'⟩, _, .ref C, some d, rfl, J, kG, ge, hoe, ⟨rfl, rfl, fun vs e => by cases e; rfl⟩, rfl, rfl, na, rfl, bare2, raises_own T.exC T.tyC, q2⟩
    | next => exact False.elim hq'
    | brk => exact False.elim hq'
    | cont => exact False.elim hq'

inductive Sl where
  | un | dat (d : D) | mut (p : Addr) (ds : List D)
abbrev Lo := List Sl
def owns (ρ : Lo) (a : Addr) : Prop := ∃ ds, Sl.mut a ds ∈ ρ
def UU (O : Addr → Prop) (ρ : Lo) (a : Addr) : Prop := O a ∨ owns ρ a
open Classical in
/-- what is known but the own lists -/
noncomputable def sup (ρ : Lo) (H : Hp) : Hp := hid (owns ρ) H

structure SOk (K : PySem.W.Frag) (F : Hp) (O : Addr → Prop) (ρ : Lo) (σ : L2.St) (H : Hp) : Prop where
  len : σ.length = ρ.length
  dat : ∀ (i : Nat) d, ρ[i]? = some (.dat d) → ∃ v, σ[i]? = some (some v) ∧ Rep K (hid (UU O ρ) H) v d
  mt : ∀ (i : Nat) p ds, ρ[i]? = some (.mut p ds) → σ[i]? = some (some (.ref p)) ∧ F p = none ∧ ∃ vs, H p = some (.lst vs) ∧ Reps K (hid (UU O ρ) H) vs ds
  nd : ∀ (i j : Nat) p ds ds', ρ[i]? = some (.mut p ds) → ρ[j]? = some (.mut p ds') → i = j
  fr : Ex F H
  od : ∀ a, O a → ∃ o, F a = some o
  tb : TB H
  ft : ∀ a o, F a = some o → NT o
section
variable {K : PySem.W.Frag} {F F' : Hp} {O : Addr → Prop} {ρ ρ' : Lo} {σ : L2.St} {H H' : Hp}
theorem SOk.own (I : SOk K F O ρ σ H) {a : Addr} (h : owns ρ a) : F a = none := by
  obtain ⟨ds, h⟩ := h
  obtain ⟨i, h⟩ := List.getElem?_of_mem h
  exact (I.mt i a ds h).2.1
theorem SOk.ownH (I : SOk K F O ρ σ H) {a : Addr} (h : owns ρ a) : ∃ vs, H a = some (.lst vs) := by
  obtain ⟨ds, h⟩ := h
  obtain ⟨i, h⟩ := List.getElem?_of_mem h
  obtain ⟨_, _, vs, e, _⟩ := I.mt i a ds h
  exact ⟨vs, e⟩
theorem SOk.nO (I : SOk K F O ρ σ H) {a : Addr} (h : owns ρ a) : ¬ O a := fun o => by
  obtain ⟨u, e⟩ := I.od a o
  rw [I.own h] at e
  cases e
/-- more is held fast -/
theorem SOk.sup (I : SOk K F O ρ σ H) : SOk K (sup ρ H) O ρ σ H where
  len := I.len
  dat := I.dat
  mt := fun i p ds e => by
    obtain ⟨h1, h2, h3⟩ := I.mt i p ds e
    refine ⟨h1, ?_, h3⟩
    unfold VL.sup hid
    rw [if_pos (.inl ⟨ds, List.mem_of_getElem? e⟩)]
  nd := I.nd
  fr := hid_ex
  od := fun a o => by
    obtain ⟨u, e⟩ := I.od a o
    have := I.ft a u e
    exact ⟨u, hid_of (fun z => I.nO z o) (I.fr a u e)⟩
  tb := I.tb
  ft := fun _ _ h => nt_hid h
theorem SOk.le_sup (I : SOk K F O ρ σ H) : Ex F (VL.sup ρ H) := fun a o e => have := I.ft a o e; hid_of (fun z => by rw [I.own z] at e; cases e) (I.fr a o e)
/-- .. less -/
theorem SOk.weak (I : SOk K F' O ρ σ H) (e : Ex F F') (od : ∀ a, O a → ∃ o, F a = some o) : SOk K F O ρ σ H where
  len := I.len
  dat := I.dat
  mt := fun i p ds h => by
    obtain ⟨h1, h2, h3⟩ := I.mt i p ds h
    refine ⟨h1, ?_, h3⟩
    cases q : F p with
    | none => rfl
    | some o => rw [e p o q] at h2; cases h2
  nd := I.nd
  fr := e.trans I.fr
  od := od
  tb := I.tb
  ft := fun a o h => I.ft a o (e a o h)
/-- a datum seen at H is seen behind what keeps sup ρ H -/
theorem SOk.keep {v : V} {d : D} (ow : owns ρ' = owns ρ) (J : SOk K (VL.sup ρ H) O ρ' σ H') (r : Rep K (hid (UU O ρ) H) v d) : Rep K (hid (UU O ρ') H') v d := by
  refine r.mono (ex_hid fun a o _ n h => ⟨?_, J.fr a o (hid_of (fun z => n (Or.inr z)) h)⟩)
  unfold UU at n ⊢
  rw [ow]
  exact n
theorem SOk.keeps {v : List V} {d : List D} (ow : owns ρ' = owns ρ) (J : SOk K (VL.sup ρ H) O ρ' σ H') (r : Reps K (hid (UU O ρ) H) v d) : Reps K (hid (UU O ρ') H') v d := by
  refine r.mono (ex_hid fun a o _ n h => ⟨?_, J.fr a o (hid_of (fun z => n (Or.inr z)) h)⟩)
  unfold UU at n ⊢
  rw [ow]
  exact n
/-- a new object beside -/
theorem SOk.new {p : Addr} {o : HO} (I : SOk K F O ρ σ H) (hp : H p = none) : SOk K F O ρ σ (upd H p o) := by
  have ex : Ex H (upd H p o) := fun a u e => by rw [upd_ne (ne_of_none e hp)]; exact e
  have exh : Ex (hid (UU O ρ) H) (hid (UU O ρ) (upd H p o)) := ex_hid fun a u _ n h => ⟨n, ex a u h⟩
  refine ⟨I.len, fun i d e => ?_, fun i q ds e => ?_, I.nd, I.fr.trans ex, I.od, I.tb.ex ex, I.ft⟩
  · obtain ⟨v, h1, h2⟩ := I.dat i d e
    exact ⟨v, h1, h2.mono exh⟩
  · obtain ⟨h1, h2, vs, h3, h4⟩ := I.mt i q ds e
    exact ⟨h1, h2, vs, ex _ _ h3, h4.mono exh⟩
theorem SOk.nU {p : Addr} (I : SOk K F O ρ σ H) (hp : H p = none) : ¬ UU O ρ p := fun z => by
  rcases z with z | z
  · obtain ⟨u, e⟩ := I.od p z
    rw [I.fr p u e] at hp
    cases hp
  · obtain ⟨vs, e⟩ := I.ownH z
    rw [e] at hp
    cases hp
theorem SOk.newHid {p : Addr} {o : HO} [NT o] (I : SOk K F O ρ σ H) (hp : H p = none) : hid (UU O ρ) (upd H p o) p = some o := hid_of (I.nU hp) upd_same
theorem ex_new {U : Addr → Prop} {p : Addr} {o : HO} (hp : H p = none) : Ex (hid U H) (hid U (upd H p o)) := ex_hid fun a u _ n h => ⟨n, by rw [upd_ne (ne_of_none h hp)]; exact h⟩
end

/-! ### what evaluates to what -/
def EV (K : PySem.W.Frag) (t : TE) (ρ : Lo) (d : D) (ρ' : Lo) : Prop := owns ρ' = owns ρ ∧
  ∀ F O σ H (Q : VK), SOk K F O ρ σ H → (∀ v H', SOk K F O ρ' σ H' → Rep K (hid (UU O ρ') H') v d → Q v H') → t σ H Q
/-- a new list -/
def EN (K : PySem.W.Frag) (t : TE) (ρ : Lo) (ds : List D) (ρ' : Lo) : Prop := owns ρ' = owns ρ ∧
  ∀ F O σ H (Q : VK), SOk K F O ρ σ H → (∀ p vs H1, SOk K F O ρ' σ H1 → H1 p = none → Reps K (hid (UU O ρ') H1) vs ds → Q (.ref p) (upd H1 p (.lst vs))) → t σ H Q
def ET (K : PySem.W.Frag) (t : TT) (ρ : Lo) (b : Bool) (ρ' : Lo) : Prop := owns ρ' = owns ρ ∧
  ∀ F O σ H (Q : Bool → Hp → Prop), SOk K F O ρ σ H → (∀ H', SOk K F O ρ' σ H' → Q b H') → t σ H Q
/-- an argument: a datum, or the own list of a slot -/
inductive Ar where
  | dat (d : D) | own (i : Nat)
def ARep (K : PySem.W.Frag) (O : Addr → Prop) (ρ : Lo) (H : Hp) : V → Ar → Prop
  | v, .dat d => Rep K (hid (UU O ρ) H) v d
  | v, .own i => ∃ p ds, ρ[i]? = some (.mut p ds) ∧ v = .ref p
abbrev AReps (K : PySem.W.Frag) (O : Addr → Prop) (ρ : Lo) (H : Hp) : List V → List Ar → Prop := Paired (ARep K O ρ H)
def EA (K : PySem.W.Frag) (t : TA) (ρ : Lo) (as : List Ar) (ρ' : Lo) : Prop := owns ρ' = owns ρ ∧
  ∀ F O σ H (Q : List V → Hp → Prop), SOk K F O ρ σ H → (∀ vs H', SOk K F O ρ' σ H' → AReps K O ρ' H' vs as → Q vs H') → t σ H Q
/-- data alone -/
def ED (K : PySem.W.Frag) (t : TA) (ρ : Lo) (ds : List D) (ρ' : Lo) : Prop := owns ρ' = owns ρ ∧
  ∀ F O σ H (Q : List V → Hp → Prop), SOk K F O ρ σ H → (∀ vs H', SOk K F O ρ' σ H' → Reps K (hid (UU O ρ') H') vs ds → Q vs H') → t σ H Q

section
variable {K : PySem.W.Frag} {F : Hp} {O : Addr → Prop} {ρ ρ1 ρ2 : Lo} {σ : L2.St} {H : Hp} {ta tb te : TE} {x y z d : D}
theorem EN.ev {ds : List D} (h : EN K te ρ ds ρ1) : EV K te ρ (.lst ds) ρ1 := ⟨h.1, fun F O σ H Q I q => h.2 F O σ H Q I fun p vs H1 J hp r =>
  q _ _ (J.new hp) (.lst (J.newHid hp) (r.mono (ex_new hp)))⟩
theorem ev2 (ha : EV K ta ρ x ρ1) (hb : EV K tb ρ1 y ρ2) (I : SOk K F O ρ σ H) {R : V → V → Hp → Prop}
    (q : ∀ v w H2, SOk K F O ρ2 σ H2 → Rep K (hid (UU O ρ2) H2) v x → Rep K (hid (UU O ρ2) H2) w y → R v w H2) : ta σ H fun v H1 => tb σ H1 fun w H2 => R v w H2 :=
  ha.2 F O σ H _ I fun v H1 J r => hb.2 _ O σ H1 _ J.sup fun w H2 L r2 => q v w H2 (L.weak J.le_sup J.od) (SOk.keep hb.1 L r) r2
theorem ev3 {tc : TE} {ρ3 : Lo} (ha : EV K ta ρ x ρ1) (hb : EV K tb ρ1 y ρ2) (hc : EV K tc ρ2 z ρ3) (I : SOk K F O ρ σ H) {R : V → V → V → Hp → Prop}
    (q : ∀ v w u H2, SOk K F O ρ3 σ H2 → Rep K (hid (UU O ρ3) H2) v x → Rep K (hid (UU O ρ3) H2) w y → Rep K (hid (UU O ρ3) H2) u z → R v w u H2) : ta σ H fun v H1 => tb σ H1 fun w H2 => tc σ H2 fun u H3 => R v w u H3 :=
  ha.2 F O σ H _ I fun v H1 J r => hb.2 _ O σ H1 _ J.sup fun w H2 L r2 => hc.2 _ O σ H2 _ L.sup fun u H3 M r3 =>
    q v w u H3 ((M.weak L.le_sup L.od).weak J.le_sup J.od) (SOk.keep hc.1 M (SOk.keep hb.1 L r)) (SOk.keep hc.1 M r2) r3
/-- a two-place operation on data -/
def OpD (K : PySem.W.Frag) (r : R2) (x y z : D) : Prop := ∀ F O ρ σ H v w (Q : VK), SOk K F O ρ σ H → Rep K (hid (UU O ρ) H) v x → Rep K (hid (UU O ρ) H) w y →
  (∀ u H', SOk K F O ρ σ H' → Rep K (hid (UU O ρ) H') u z → Q u H') → r v w H Q
theorem ev_op {r : R2} (hd : OpD K r x y z) (ha : EV K ta ρ x ρ1) (hb : EV K tb ρ1 y ρ2) : EV K (tOp r ta tb) ρ z ρ2 :=
  ⟨hb.1.trans ha.1, fun F O σ H Q I q => ev2 ha hb I fun v w H2 J r1 r2 => hd F O ρ2 σ H2 v w Q J r1 r2 q⟩
/-- .. that makes a new list -/
def OpN (K : PySem.W.Frag) (r : R2) (x y : D) (ds : List D) : Prop := ∀ F O ρ σ H v w (Q : VK), SOk K F O ρ σ H → Rep K (hid (UU O ρ) H) v x → Rep K (hid (UU O ρ) H) w y →
  (∀ p vs H1, SOk K F O ρ σ H1 → H1 p = none → Reps K (hid (UU O ρ) H1) vs ds → Q (.ref p) (upd H1 p (.lst vs))) → r v w H Q
theorem en_op {r : R2} {ds : List D} (hd : OpN K r x y ds) (ha : EV K ta ρ x ρ1) (hb : EV K tb ρ1 y ρ2) : EN K (tOp r ta tb) ρ ds ρ2 :=
  ⟨hb.1.trans ha.1, fun F O σ H Q I q => ev2 ha hb I fun v w H2 J r1 r2 => hd F O ρ2 σ H2 v w Q J r1 r2 q⟩
theorem opd_I0 {g : Int → Int → D} {gv : Int → Int → V} {i j : Int} (hg : ∀ H, Rep K H (gv i j) (g i j)) : OpD K (rI0 gv) (.int i) (.int j) (g i j) := fun F O ρ σ H v w Q I rv rw' q => by
  cases rv; cases rw'
  exact ⟨i, j, rfl, rfl, q _ _ I (hg _)⟩
theorem opd_I {C : Int → Int → Prop} {g : Int → Int → D} {gv : Int → Int → V} {i j : Int} (hc : C i j) (hg : ∀ H, Rep K H (gv i j) (g i j)) : OpD K (rI C gv) (.int i) (.int j) (g i j) := fun F O ρ σ H v w Q I rv rw' q => by
  cases rv; cases rw'
  exact ⟨i, j, rfl, rfl, hc, q _ _ I (hg _)⟩
/-- a call on data -/
def CbD (K : PySem.W.Frag) (r : List V → Hp → VK → Prop) (ds : List D) (z : D) : Prop := ∀ F O ρ σ H vs (Q : VK), SOk K F O ρ σ H → Reps K (hid (UU O ρ) H) vs ds →
  (∀ u H', SOk K F O ρ σ H' → Rep K (hid (UU O ρ) H') u z → Q u H') → r vs H Q
def CbN (K : PySem.W.Frag) (r : List V → Hp → VK → Prop) (ds : List D) (es : List D) : Prop := ∀ F O ρ σ H vs (Q : VK), SOk K F O ρ σ H → Reps K (hid (UU O ρ) H) vs ds →
  (∀ p ws H1, SOk K F O ρ σ H1 → H1 p = none → Reps K (hid (UU O ρ) H1) ws es → Q (.ref p) (upd H1 p (.lst ws))) → r vs H Q
theorem ev_cb {r : List V → Hp → VK → Prop} {t : TA} {ds : List D} (hd : CbD K r ds z) (h : ED K t ρ ds ρ1) : EV K (tCB r t) ρ z ρ1 :=
  ⟨h.1, fun F O σ H Q I q => h.2 F O σ H _ I fun vs H1 J r1 => hd F O ρ1 σ H1 vs Q J r1 q⟩
theorem en_cb {r : List V → Hp → VK → Prop} {t : TA} {ds es : List D} (hd : CbN K r ds es) (h : ED K t ρ ds ρ1) : EN K (tCB r t) ρ es ρ1 :=
  ⟨h.1, fun F O σ H Q I q => h.2 F O σ H _ I fun vs H1 J r1 => hd F O ρ1 σ H1 vs Q J r1 q⟩
theorem ed_nil : ED K tNil ρ [] ρ := ⟨rfl, fun F O σ H Q I q => q [] H I .nil⟩
theorem ed_cons {t : TA} {ds : List D} (h : EV K te ρ d ρ1) (hr : ED K t ρ1 ds ρ2) : ED K (tCons te t) ρ (d :: ds) ρ2 :=
  ⟨hr.1.trans h.1, fun F O σ H Q I q => h.2 F O σ H _ I fun v H1 J r => hr.2 _ O σ H1 _ J.sup fun vs H2 L rs => q _ H2 (L.weak J.le_sup J.od) (.cons (SOk.keep hr.1 L r) rs)⟩
theorem ea_nil : EA K tNil ρ [] ρ := ⟨rfl, fun F O σ H Q I q => q [] H I .nil⟩
end
end VL
end

section
set_option Elab.async false
set_option linter.all false
set_option maxRecDepth 100000
set_option maxHeartbeats 4000000
namespace VL
open PySem PySem.Spec PyProof.Rows L2

/-! ### the judgements over the text -/
def tw (X : Cx) (e : Expr) : TE := fun σ H Q => ∀ (pins : List (Addr × Obj)) (s : Shared), Inv X pins σ H s → wpAny (model X.prog X.w) X.A (eval e X.env) (EP X pins σ Q) X.xe s
def twT (X : Cx) (e : Expr) : TT := fun σ H Q => ∀ (pins : List (Addr × Obj)) (s : Shared), Inv X pins σ H s → wpAny (model X.prog X.w) X.A (isTrue e X.env (eval e X.env)) (TP X pins σ Q) X.xe s
def twW (X : Cx) (e : Expr) : TT := fun σ H Q => ∀ (wh : Sem Value) (pins : List (Addr × Obj)) (s : Shared), Inv X pins σ H s → wpAny (model X.prog X.w) X.A (isTrue e X.env wh) (TP X pins σ Q) X.xe s
def twA (X : Cx) (es : List Expr) : TA := fun σ H Q => ∀ (pos : Pos) (pins : List (Addr × Obj)) (s : Shared), Inv X pins σ H s → wpAny (model X.prog X.w) X.A (spliced (backTo pos (starEach es X.env))) (AP X pins σ Q) X.xe s
section
variable {X : Cx} {e a b c : Expr} {es : List Expr}
theorem pe_tw : PE X e (tw X e) := ⟨fun pins s _ _ _ I h => h pins s I⟩
theorem pt_tw : PT X e (twT X e) := ⟨fun pins s _ _ _ I h => h pins s I⟩
theorem pw_tw : PW X e (twW X e) := ⟨fun wh pins s _ _ _ I h => h wh pins s I⟩
theorem pa_tw : PA X es (twA X es) := ⟨fun pos pins s _ _ _ I h => h pos pins s I⟩
def CE (X : Cx) (ρ : Lo) (e : Expr) (d : D) (ρ' : Lo) : Prop := EV X.K (tw X e) ρ d ρ'
def CN (X : Cx) (ρ : Lo) (e : Expr) (ds : List D) (ρ' : Lo) : Prop := EN X.K (tw X e) ρ ds ρ'
def CT (X : Cx) (ρ : Lo) (e : Expr) (b : Bool) (ρ' : Lo) : Prop := ET X.K (twT X e) ρ b ρ'
def CW (X : Cx) (ρ : Lo) (e : Expr) (b : Bool) (ρ' : Lo) : Prop := ET X.K (twW X e) ρ b ρ'
def CD (X : Cx) (ρ : Lo) (es : List Expr) (ds : List D) (ρ' : Lo) : Prop := ED X.K (twA X es) ρ ds ρ'
def CA (X : Cx) (ρ : Lo) (es : List Expr) (as : List Ar) (ρ' : Lo) : Prop := EA X.K (twA X es) ρ as ρ'
variable {ρ ρ1 ρ2 ρ3 : Lo} {x y z d : D} {pos p : Pos}
theorem CE.of {t : TE} (h : PE X e t) (v : EV X.K t ρ d ρ1) : CE X ρ e d ρ1 := ⟨v.1, fun F O σ H Q I q pins s J => h.run pins s σ H Q J (v.2 F O σ H Q I q)⟩
theorem CN.of {t : TE} {ds : List D} (h : PE X e t) (v : EN X.K t ρ ds ρ1) : CN X ρ e ds ρ1 := ⟨v.1, fun F O σ H Q I q pins s J => h.run pins s σ H Q J (v.2 F O σ H Q I q)⟩
theorem CT.of {t : TT} {k : Bool} (h : PT X e t) (v : ET X.K t ρ k ρ1) : CT X ρ e k ρ1 := ⟨v.1, fun F O σ H Q I q pins s J => h.run pins s σ H Q J (v.2 F O σ H Q I q)⟩
theorem CW.of {t : TT} {k : Bool} (h : PW X e t) (v : ET X.K t ρ k ρ1) : CW X ρ e k ρ1 := ⟨v.1, fun F O σ H Q I q wh pins s J => h.run wh pins s σ H Q J (v.2 F O σ H Q I q)⟩
theorem CD.of {t : TA} {ds : List D} (h : PA X es t) (v : ED X.K t ρ ds ρ1) : CD X ρ es ds ρ1 := ⟨v.1, fun F O σ H Q I q pos pins s J => h.run pos pins s σ H Q J (v.2 F O σ H Q I q)⟩
theorem CA.of {t : TA} {as : List Ar} (h : PA X es t) (v : EA X.K t ρ as ρ1) : CA X ρ es as ρ1 := ⟨v.1, fun F O σ H Q I q pos pins s J => h.run pos pins s σ H Q J (v.2 F O σ H Q I q)⟩
theorem CN.ce {ds : List D} (h : CN X ρ e ds ρ1) : CE X ρ e (.lst ds) ρ1 := EN.ev h
theorem CE.eq (h : CE X ρ e x ρ1) (q : x = y) : CE X ρ e y ρ1 := q ▸ h
theorem CN.eq {xs ys : List D} (h : CN X ρ e xs ρ1) (q : xs = ys) : CN X ρ e ys ρ1 := q ▸ h
theorem CT.eq {j k : Bool} (h : CT X ρ e j ρ1) (q : j = k) : CT X ρ e k ρ1 := q ▸ h

/-! ### names, constants -/
theorem c_var (i : Nat) {n : Str} (hd : ρ[i]? = some (.dat d) := by rfl) (hN : X.N[i]? = some n := by rfl) (hv : Vis X.env.scope n := by first | exact Or.inl rfl | exact Or.inr (Or.inl rfl) | exact Or.inr (Or.inr rfl))
    (h1 : (n == ("__debug__" : Str)) = false := by decide) (h2 : (n == ("__classdict__" : Str)) = false := by decide) : CE X ρ (.Name n p) d ρ :=
  .of (pe_var hN hv h1 h2) ⟨rfl, fun F O σ H Q I q => by
    obtain ⟨v, h1, h2⟩ := I.dat i d hd
    exact ⟨v, h1, q v H I h2⟩⟩
theorem ev_c {v : V} (r : ∀ H, Rep X.K H v d) : EV X.K (tC v) ρ d ρ := ⟨rfl, fun F O σ H Q I q => q v H I (r _)⟩
theorem c_int {i : Int} {j} : CE X ρ (.Constant (.int i) j pos) (.int i) ρ := .of pe_int (ev_c fun _ => .int i)
theorem c_bl {i : Bool} {j} : CE X ρ (.Constant (.bool i) j pos) (.bl i) ρ := .of pe_bl (ev_c fun _ => .bl i)
theorem c_non {j} : CE X ρ (.Constant .none j pos) .non ρ := .of pe_non (ev_c fun _ => .non)
theorem c_str {i : Str} {j} : CE X ρ (.Constant (.str i) j pos) (.str i) ρ := .of pe_str (ev_c fun _ => .str i)
/-- a number of the module -/
theorem c_gint {n : Str} {i : Int} (hm : ∃ t : Tok, X.mg n = some (.int i t)) (hg : Gl X n := by rfl) (hd : (n == ("__debug__" : Str)) = false := by decide) : CE X ρ (.Name n p) (.int i) ρ := let ⟨t, hm⟩ := hm; .of (pe_glob (v := .int i) hg hm ⟨_, rfl⟩ hd) (ev_c fun _ => .int i)
/-- a def, a class of the module -/
theorem c_gref {n : Str} {a : Addr} (hm : X.mg n = some (.ref a)) (hg : Gl X n := by rfl) (hd : (n == ("__debug__" : Str)) = false := by decide) : CE X ρ (.Name n p) (.adr a) ρ := .of (pe_glob (v := .ref a) hg hm rfl hd) (ev_c fun _ => .adr a)
/-- a built-in class -/
theorem c_bty {n : Str} (T : String) (hm : X.mg n = none) (hv : bootBuiltins n = some (.type T) := by decide +kernel) (hg : Gl X n := by rfl) (hn : n ≠ "__name__" := by decide) (hd : (n == ("__debug__" : Str)) = false := by decide) : CE X ρ (.Name n p) (.ty T) ρ := .of (pe_bltn (v := .ty T) hg hm hv rfl hn hd) (ev_c fun _ => .ty T)

/-! ### operators -/
theorem c_bin {op : Operator} {r : R2} (ho : OpR X (binaryOp op) r) (hd : OpD X.K r x y z) (ha : CE X ρ a x ρ1) (hb : CE X ρ1 b y ρ2) : CE X ρ (.BinOp a op b pos) z ρ2 := .of (pe_op ho pe_tw pe_tw) (ev_op hd ha hb)
theorem n_bin {op : Operator} {r : R2} {ds : List D} (ho : OpR X (binaryOp op) r) (hd : OpN X.K r x y ds) (ha : CE X ρ a x ρ1) (hb : CE X ρ1 b y ρ2) : CN X ρ (.BinOp a op b pos) ds ρ2 := .of (pe_op ho pe_tw pe_tw) (en_op hd ha hb)
variable {i j : Int}
theorem c_add (ha : CE X ρ a (.int i) ρ1) (hb : CE X ρ1 b (.int j) ρ2) : CE X ρ (.BinOp a .Add b pos) (.int (i + j)) ρ2 := c_bin op_add (opd_I0 (g := fun i j => .int (i + j)) fun _ => .int _) ha hb
theorem c_sub (ha : CE X ρ a (.int i) ρ1) (hb : CE X ρ1 b (.int j) ρ2) : CE X ρ (.BinOp a .Sub b pos) (.int (i - j)) ρ2 := c_bin op_sub (opd_I0 (g := fun i j => .int (i - j)) fun _ => .int _) ha hb
theorem c_mul (ha : CE X ρ a (.int i) ρ1) (hb : CE X ρ1 b (.int j) ρ2) (hc : CMul i j) : CE X ρ (.BinOp a .Mult b pos) (.int (i * j)) ρ2 := c_bin op_mul (opd_I (g := fun i j => .int (i * j)) hc fun _ => .int _) ha hb
theorem c_mulW (ha : CE X ρ a (.int i) ρ1) (hb : CE X ρ1 b (.int j) ρ2) (hc : CMulW i j) : CE X ρ (.BinOp a .Mult b pos) (.int (i * j)) ρ2 := c_bin op_mulW (opd_I (g := fun i j => .int (i * j)) hc fun _ => .int _) ha hb
theorem c_div (ha : CE X ρ a (.int i) ρ1) (hb : CE X ρ1 b (.int j) ρ2) (hc : CDiv i j) : CE X ρ (.BinOp a .FloorDiv b pos) (.int (i / j)) ρ2 := c_bin op_fdiv (opd_I (g := fun i j => .int (i / j)) hc fun _ => .int _) ha hb
theorem c_divW (ha : CE X ρ a (.int i) ρ1) (hb : CE X ρ1 b (.int j) ρ2) (hc : CDivW i j) : CE X ρ (.BinOp a .FloorDiv b pos) (.int (i / j)) ρ2 := c_bin op_fdivW (opd_I (g := fun i j => .int (i / j)) hc fun _ => .int _) ha hb
theorem c_mod (ha : CE X ρ a (.int i) ρ1) (hb : CE X ρ1 b (.int j) ρ2) (hc : 0 < j) : CE X ρ (.BinOp a .Mod b pos) (.int (i % j)) ρ2 := c_bin op_mod (opd_I (C := fun _ j => 0 < j) (g := fun i j => .int (i % j)) hc fun _ => .int _) ha hb
theorem c_pow (ha : CE X ρ a (.int i) ρ1) (hb : CE X ρ1 b (.int j) ρ2) (hc : CPow i j) : CE X ρ (.BinOp a .Pow b pos) (.int (i ^ j.toNat)) ρ2 := c_bin op_pow (opd_I (g := fun i j => .int (i ^ j.toNat)) hc fun _ => .int _) ha hb
theorem c_neg (ha : CE X ρ a (.int i) ρ1) : CE X ρ (.UnaryOp .USub a pos) (.int (-i)) ρ1 := .of (pe_un un_neg pe_tw) ⟨ha.1, fun F O σ H Q I q => ha.2 F O σ H _ I fun v H1 J r => by
  cases r
  exact ⟨i, rfl, q _ _ J (.int _)⟩⟩
theorem c_cmp {op : CmpOp} {r : R2} (ho : OpR X (compareOp op) r) (hd : OpD X.K r x y z) (ha : CE X ρ a x ρ1) (hb : CE X ρ1 b y ρ2) (hm : behindInMarks op b = false) : CE X ρ (.Compare a [op] [b] pos) z ρ2 := .of (pe_cmpR ho pe_tw pe_tw hm) (ev_op hd ha hb)
theorem c_lt (ha : CE X ρ a (.int i) ρ1) (hb : CE X ρ1 b (.int j) ρ2) : CE X ρ (.Compare a [.Lt] [b] pos) (.bl (decide (i < j))) ρ2 := c_cmp op_lt (opd_I0 (g := fun i j => .bl (decide (i < j))) fun _ => .bl _) ha hb (nomark _)
theorem c_le (ha : CE X ρ a (.int i) ρ1) (hb : CE X ρ1 b (.int j) ρ2) : CE X ρ (.Compare a [.LtE] [b] pos) (.bl (decide (i ≤ j))) ρ2 := c_cmp op_le (opd_I0 (g := fun i j => .bl (decide (i ≤ j))) fun _ => .bl _) ha hb (nomark _)
theorem c_gt (ha : CE X ρ a (.int i) ρ1) (hb : CE X ρ1 b (.int j) ρ2) : CE X ρ (.Compare a [.Gt] [b] pos) (.bl (decide (j < i))) ρ2 := c_cmp op_gt (opd_I0 (g := fun i j => .bl (decide (j < i))) fun _ => .bl _) ha hb (nomark _)
theorem c_ge (ha : CE X ρ a (.int i) ρ1) (hb : CE X ρ1 b (.int j) ρ2) : CE X ρ (.Compare a [.GtE] [b] pos) (.bl (decide (j ≤ i))) ρ2 := c_cmp op_ge (opd_I0 (g := fun i j => .bl (decide (j ≤ i))) fun _ => .bl _) ha hb (nomark _)
/-- == of plain things of the kinds of scal -/
theorem opd_eq {v w : V} (rv : ∀ H u, Rep X.K H u x → u = v) (rw' : ∀ H u, Rep X.K H u y → u = w) (hs : scal v w = true) : OpD X.K rEq x y (.bl (decide (v = w))) := fun F O ρ σ H v' w' Q I r1 r2 q => by
  rw [rv _ _ r1, rw' _ _ r2]
  exact ⟨hs, q _ _ I (.bl _)⟩
theorem opd_ne {v w : V} (rv : ∀ H u, Rep X.K H u x → u = v) (rw' : ∀ H u, Rep X.K H u y → u = w) (hs : scal v w = true) : OpD X.K rNe x y (.bl (!decide (v = w))) := fun F O ρ σ H v' w' Q I r1 r2 q => by
  rw [rv _ _ r1, rw' _ _ r2]
  exact ⟨hs, q _ _ I (.bl _)⟩
theorem rint {K : PySem.W.Frag} {H : Hp} {u : V} (r : Rep K H u (.int i)) : u = .int i := by cases r; rfl
theorem rbl {K : PySem.W.Frag} {H : Hp} {u : V} {k : Bool} (r : Rep K H u (.bl k)) : u = .bl k := by cases r; rfl
theorem rstr {K : PySem.W.Frag} {H : Hp} {u : V} {k : Str} (r : Rep K H u (.str k)) : u = .str k := by cases r; rfl
theorem rnon {K : PySem.W.Frag} {H : Hp} {u : V} (r : Rep K H u .non) : u = .non := by cases r; rfl
theorem dInt : decide (V.int i = V.int j) = decide (i = j) := by
  by_cases h : i = j
  · subst h; simp
  · rw [decide_eq_false h, decide_eq_false fun z => h (V.int.inj z)]
theorem dBl {i j : Bool} : decide (V.bl i = V.bl j) = decide (i = j) := by
  by_cases h : i = j
  · subst h; simp
  · rw [decide_eq_false h, decide_eq_false fun z => h (V.bl.inj z)]
theorem dStr {i j : Str} : decide (V.str i = V.str j) = decide (i = j) := by
  by_cases h : i = j
  · subst h; simp
  · rw [decide_eq_false h, decide_eq_false fun z => h (V.str.inj z)]
theorem c_eqI (ha : CE X ρ a (.int i) ρ1) (hb : CE X ρ1 b (.int j) ρ2) : CE X ρ (.Compare a [.Eq] [b] pos) (.bl (decide (i = j))) ρ2 := (c_cmp op_eq (opd_eq (fun _ _ r => rint r) (fun _ _ r => rint r) rfl) ha hb (nomark _)).eq (congrArg D.bl dInt)
theorem c_neI (ha : CE X ρ a (.int i) ρ1) (hb : CE X ρ1 b (.int j) ρ2) : CE X ρ (.Compare a [.NotEq] [b] pos) (.bl (!decide (i = j))) ρ2 := (c_cmp op_ne (opd_ne (fun _ _ r => rint r) (fun _ _ r => rint r) rfl) ha hb (nomark _)).eq (congrArg (fun z => D.bl (!z)) dInt)
theorem c_eqB {i j : Bool} (ha : CE X ρ a (.bl i) ρ1) (hb : CE X ρ1 b (.bl j) ρ2) : CE X ρ (.Compare a [.Eq] [b] pos) (.bl (decide (i = j))) ρ2 := (c_cmp op_eq (opd_eq (fun _ _ r => rbl r) (fun _ _ r => rbl r) rfl) ha hb (nomark _)).eq (congrArg D.bl dBl)
theorem c_neB {i j : Bool} (ha : CE X ρ a (.bl i) ρ1) (hb : CE X ρ1 b (.bl j) ρ2) : CE X ρ (.Compare a [.NotEq] [b] pos) (.bl (!decide (i = j))) ρ2 := (c_cmp op_ne (opd_ne (fun _ _ r => rbl r) (fun _ _ r => rbl r) rfl) ha hb (nomark _)).eq (congrArg (fun z => D.bl (!z)) dBl)
theorem c_eqS {i j : Str} (ha : CE X ρ a (.str i) ρ1) (hb : CE X ρ1 b (.str j) ρ2) : CE X ρ (.Compare a [.Eq] [b] pos) (.bl (decide (i = j))) ρ2 := (c_cmp op_eq (opd_eq (fun _ _ r => rstr r) (fun _ _ r => rstr r) rfl) ha hb (nomark _)).eq (congrArg D.bl dStr)
theorem c_neS {i j : Str} (ha : CE X ρ a (.str i) ρ1) (hb : CE X ρ1 b (.str j) ρ2) : CE X ρ (.Compare a [.NotEq] [b] pos) (.bl (!decide (i = j))) ρ2 := (c_cmp op_ne (opd_ne (fun _ _ r => rstr r) (fun _ _ r => rstr r) rfl) ha hb (nomark _)).eq (congrArg (fun z => D.bl (!z)) dStr)
/-- is None -/
def isNon : D → Bool
  | .non => true
  | _ => false
theorem isNon_of {K : PySem.W.Frag} {H : Hp} {v : V} (r : Rep K H v x) : decide (v = V.non) = isNon x := by cases r <;> rfl
theorem c_isN (ha : CE X ρ a x ρ1) (hb : CE X ρ1 b .non ρ2) : CE X ρ (.Compare a [.Is] [b] pos) (.bl (isNon x)) ρ2 := c_cmp op_isN (fun F O ρ σ H v w Q I r1 r2 q => by
  cases r2
  refine ⟨rfl, ?_⟩
  rw [isNon_of r1]
  exact q _ _ I (.bl _)) ha hb (nomark _)
theorem c_notN (ha : CE X ρ a x ρ1) (hb : CE X ρ1 b .non ρ2) : CE X ρ (.Compare a [.IsNot] [b] pos) (.bl (!isNon x)) ρ2 := c_cmp op_notN (fun F O ρ σ H v w Q I r1 r2 q => by
  cases r2
  refine ⟨rfl, ?_⟩
  rw [isNon_of r1]
  exact q _ _ I (.bl _)) ha hb (nomark _)

/-! ### chains: a < b < c -/
theorem ev_chain {r1 r2 : R2} {ta tb tc : TE} {k l : Bool} (d1 : OpD X.K r1 x y (.bl k)) (d2 : OpD X.K r2 y z (.bl l)) (ha : EV X.K ta ρ x ρ1) (hb : EV X.K tb ρ1 y ρ2) (hc : k = true → EV X.K tc ρ2 z ρ2) :
    EV X.K (tChain r1 r2 ta tb tc) ρ (.bl (k && l)) ρ2 := ⟨hb.1.trans ha.1, fun F O σ H Q I q => ev2 ha hb I fun v w H2 J rv rw' => by
  refine d1 _ O ρ2 σ H2 v w _ J.sup rv rw' fun u H3 L ru => ?_
  have L' := L.weak J.le_sup J.od
  have rw3 := SOk.keep rfl L rw'
  cases ru
  refine ⟨k, rfl, ?_⟩
  cases k with
  | false => rw [if_neg Bool.false_ne_true]; exact q _ _ L' (.bl _)
  | true =>
    rw [if_pos rfl]
    refine (hc rfl).2 _ O σ H3 _ L'.sup fun w' H4 M r4 => ?_
    refine d2 F O ρ2 σ H4 w w' Q (M.weak L'.le_sup L'.od) (SOk.keep rfl M rw3) r4 fun u H5 N r5 => ?_
    exact q u H5 N r5⟩
theorem c_chain {o1 o2 : CmpOp} {r1 r2 : R2} {k l : Bool} (h1 : OpR X (compareOp o1) r1) (h2 : OpR X (compareOp o2) r2) (d1 : OpD X.K r1 x y (.bl k)) (d2 : OpD X.K r2 y z (.bl l)) (ha : CE X ρ a x ρ1) (hb : CE X ρ1 b y ρ2) (hc : k = true → CE X ρ2 c z ρ2)
    (hm : lastMarks [o1, o2] [b, c] = false := by with_unfolding_all rfl) : CE X ρ (.Compare a [o1, o2] [b, c] pos) (.bl (k && l)) ρ2 := .of (pe_chain h1 h2 pe_tw pe_tw pe_tw hm) (ev_chain d1 d2 ha hb hc)
theorem c_leLe {i j m : Int} (ha : CE X ρ a (.int i) ρ1) (hb : CE X ρ1 b (.int j) ρ2) (hc : i ≤ j → CE X ρ2 c (.int m) ρ2) (hm : lastMarks [.LtE, .LtE] [b, c] = false := by with_unfolding_all rfl) :
    CE X ρ (.Compare a [.LtE, .LtE] [b, c] pos) (.bl (decide (i ≤ j) && decide (j ≤ m))) ρ2 :=
  c_chain op_le op_le (opd_I0 (g := fun i j => .bl (decide (i ≤ j))) fun _ => .bl _) (opd_I0 (g := fun i j => .bl (decide (i ≤ j))) fun _ => .bl _) ha hb (fun h => hc (of_decide_eq_true h)) hm

/-! ### and, or, not, if -/
/-- a value that is a truth, as a test -/
theorem t_val {k : Bool} (h : CE X ρ e (.bl k) ρ1) (he : ∀ whole, isTrue e X.env whole = (do let v ← whole; standAt e.pos; holding [v] (truthy v)) := by intro _; rfl) : CT X ρ e k ρ1 := .of (pt_val pe_tw he) ⟨h.1, fun F O σ H Q I q => h.2 F O σ H _ I fun v H1 J r => by
  cases r
  exact ⟨k, rfl, q _ J⟩⟩
/-- a comparison as a test -/
theorem t_cmp {op : CmpOp} {k : Bool} {r : R2} (ho : OpR X (compareOp op) r) (hd : OpD X.K r x y (.bl k)) (ha : CE X ρ a x ρ1) (hb : CE X ρ1 b y ρ2) (hm : behindInMarks op b = false) : CT X ρ (.Compare a [op] [b] pos) k ρ2 := .of (pt_cmpR ho pe_tw pe_tw hm)
  ⟨hb.1.trans ha.1, fun F O σ H Q I q => (ev_op hd ha hb).2 F O σ H _ I fun v H1 J r => by
    cases r
    exact ⟨k, rfl, q _ J⟩⟩
theorem t_chain {o1 o2 : CmpOp} {r1 r2 : R2} {k l : Bool} (h1 : OpR X (compareOp o1) r1) (h2 : OpR X (compareOp o2) r2) (d1 : OpD X.K r1 x y (.bl k)) (d2 : OpD X.K r2 y z (.bl l)) (ha : CE X ρ a x ρ1) (hb : CE X ρ1 b y ρ2) (hc : k = true → CE X ρ2 c z ρ2)
    (hm : lastMarks [o1, o2] [b, c] = false := by with_unfolding_all rfl) : CT X ρ (.Compare a [o1, o2] [b, c] pos) (k && l) ρ2 := .of (pt_chain h1 h2 pe_tw pe_tw pe_tw hm)
  ⟨hb.1.trans ha.1, fun F O σ H Q I q => (ev_chain d1 d2 ha hb hc).2 F O σ H _ I fun v H1 J r => by
    cases r
    exact ⟨_, rfl, q _ J⟩⟩
theorem t_lt (ha : CE X ρ a (.int i) ρ1) (hb : CE X ρ1 b (.int j) ρ2) : CT X ρ (.Compare a [.Lt] [b] pos) (decide (i < j)) ρ2 := t_cmp op_lt (opd_I0 (g := fun i j => .bl (decide (i < j))) fun _ => .bl _) ha hb (nomark _)
theorem t_le (ha : CE X ρ a (.int i) ρ1) (hb : CE X ρ1 b (.int j) ρ2) : CT X ρ (.Compare a [.LtE] [b] pos) (decide (i ≤ j)) ρ2 := t_cmp op_le (opd_I0 (g := fun i j => .bl (decide (i ≤ j))) fun _ => .bl _) ha hb (nomark _)
theorem t_gt (ha : CE X ρ a (.int i) ρ1) (hb : CE X ρ1 b (.int j) ρ2) : CT X ρ (.Compare a [.Gt] [b] pos) (decide (j < i)) ρ2 := t_cmp op_gt (opd_I0 (g := fun i j => .bl (decide (j < i))) fun _ => .bl _) ha hb (nomark _)
theorem t_ge (ha : CE X ρ a (.int i) ρ1) (hb : CE X ρ1 b (.int j) ρ2) : CT X ρ (.Compare a [.GtE] [b] pos) (decide (j ≤ i)) ρ2 := t_cmp op_ge (opd_I0 (g := fun i j => .bl (decide (j ≤ i))) fun _ => .bl _) ha hb (nomark _)
theorem t_eqI (ha : CE X ρ a (.int i) ρ1) (hb : CE X ρ1 b (.int j) ρ2) : CT X ρ (.Compare a [.Eq] [b] pos) (decide (i = j)) ρ2 := (t_cmp op_eq (opd_eq (fun _ _ r => rint r) (fun _ _ r => rint r) rfl) ha hb (nomark _)).eq dInt
theorem t_neI (ha : CE X ρ a (.int i) ρ1) (hb : CE X ρ1 b (.int j) ρ2) : CT X ρ (.Compare a [.NotEq] [b] pos) (!decide (i = j)) ρ2 := (t_cmp op_ne (opd_ne (fun _ _ r => rint r) (fun _ _ r => rint r) rfl) ha hb (nomark _)).eq (congrArg (fun z => !z) dInt)
theorem t_eqB {i j : Bool} (ha : CE X ρ a (.bl i) ρ1) (hb : CE X ρ1 b (.bl j) ρ2) : CT X ρ (.Compare a [.Eq] [b] pos) (decide (i = j)) ρ2 := (t_cmp op_eq (opd_eq (fun _ _ r => rbl r) (fun _ _ r => rbl r) rfl) ha hb (nomark _)).eq dBl
theorem t_neB {i j : Bool} (ha : CE X ρ a (.bl i) ρ1) (hb : CE X ρ1 b (.bl j) ρ2) : CT X ρ (.Compare a [.NotEq] [b] pos) (!decide (i = j)) ρ2 := (t_cmp op_ne (opd_ne (fun _ _ r => rbl r) (fun _ _ r => rbl r) rfl) ha hb (nomark _)).eq (congrArg (fun z => !z) dBl)
theorem t_eqS {i j : Str} (ha : CE X ρ a (.str i) ρ1) (hb : CE X ρ1 b (.str j) ρ2) : CT X ρ (.Compare a [.Eq] [b] pos) (decide (i = j)) ρ2 := (t_cmp op_eq (opd_eq (fun _ _ r => rstr r) (fun _ _ r => rstr r) rfl) ha hb (nomark _)).eq dStr
theorem t_leLe {i j m : Int} (ha : CE X ρ a (.int i) ρ1) (hb : CE X ρ1 b (.int j) ρ2) (hc : i ≤ j → CE X ρ2 c (.int m) ρ2) (hm : lastMarks [.LtE, .LtE] [b, c] = false := by with_unfolding_all rfl) :
    CT X ρ (.Compare a [.LtE, .LtE] [b, c] pos) (decide (i ≤ j) && decide (j ≤ m)) ρ2 :=
  t_chain op_le op_le (opd_I0 (g := fun i j => .bl (decide (i ≤ j))) fun _ => .bl _) (opd_I0 (g := fun i j => .bl (decide (i ≤ j))) fun _ => .bl _) ha hb (fun h => hc (of_decide_eq_true h)) hm
theorem t_isN (ha : CE X ρ a x ρ1) (hb : CE X ρ1 b .non ρ2) : CT X ρ (.Compare a [.Is] [b] pos) (isNon x) ρ2 := t_cmp op_isN (fun F O ρ σ H v w Q I r1 r2 q => by
  cases r2
  refine ⟨rfl, ?_⟩
  rw [isNon_of r1]
  exact q _ _ I (.bl _)) ha hb (nomark _)
theorem t_notN (ha : CE X ρ a x ρ1) (hb : CE X ρ1 b .non ρ2) : CT X ρ (.Compare a [.IsNot] [b] pos) (!isNon x) ρ2 := t_cmp op_notN (fun F O ρ σ H v w Q I r1 r2 q => by
  cases r2
  refine ⟨rfl, ?_⟩
  rw [isNon_of r1]
  exact q _ _ I (.bl _)) ha hb (nomark _)
theorem et_and {t u : TT} {k l : Bool} (h1 : ET X.K t ρ k ρ1) (h2 : k = true → ET X.K u ρ1 l ρ2) (hs : k = false → ρ2 = ρ1) : ET X.K (tAnd t u) ρ (k && l) ρ2 := by
  cases k with
  | true => exact ⟨(h2 rfl).1.trans h1.1, fun F O σ H Q I q => h1.2 F O σ H _ I fun H1 J => by
      rw [if_pos rfl]
      exact (h2 rfl).2 F O σ H1 Q J q⟩
  | false =>
    obtain rfl := hs rfl
    exact ⟨h1.1, fun F O σ H Q I q => h1.2 F O σ H _ I fun H1 J => by
      rw [if_neg Bool.false_ne_true]
      exact q H1 J⟩
theorem et_or {t u : TT} {k l : Bool} (h1 : ET X.K t ρ k ρ1) (h2 : k = false → ET X.K u ρ1 l ρ2) (hs : k = true → ρ2 = ρ1) : ET X.K (tOr t u) ρ (k || l) ρ2 := by
  cases k with
  | false => exact ⟨(h2 rfl).1.trans h1.1, fun F O σ H Q I q => h1.2 F O σ H _ I fun H1 J => by
      rw [if_neg Bool.false_ne_true]
      exact (h2 rfl).2 F O σ H1 Q J q⟩
  | true =>
    obtain rfl := hs rfl
    exact ⟨h1.1, fun F O σ H Q I q => h1.2 F O σ H _ I fun H1 J => by
      rw [if_pos rfl]
      exact q H1 J⟩
variable {k l : Bool} {rest : List Expr}
theorem w_and1 (ha : CT X ρ a k ρ1) : CW X ρ (.BoolOp .And [a] pos) k ρ1 := .of (pw_and1 pt_tw) ha
theorem w_or1 (ha : CT X ρ a k ρ1) : CW X ρ (.BoolOp .Or [a] pos) k ρ1 := .of (pw_or1 pt_tw) ha
theorem w_and (ha : CT X ρ a k ρ1) (hb : k = true → CW X ρ1 (.BoolOp .And (b :: rest) pos) l ρ2) (hs : k = false → ρ2 = ρ1 := by intro _; rfl) : CW X ρ (.BoolOp .And (a :: b :: rest) pos) (k && l) ρ2 := .of (pw_and pt_tw pw_tw) (et_and ha hb hs)
theorem w_or (ha : CT X ρ a k ρ1) (hb : k = false → CW X ρ1 (.BoolOp .Or (b :: rest) pos) l ρ2) (hs : k = true → ρ2 = ρ1 := by intro _; rfl) : CW X ρ (.BoolOp .Or (a :: b :: rest) pos) (k || l) ρ2 := .of (pw_or pt_tw pw_tw) (et_or ha hb hs)
theorem t_w (h : CW X ρ e k ρ1) : CT X ρ e k ρ1 := .of (PW.pt pw_tw) h
theorem t_not (ha : CT X ρ a k ρ1) : CT X ρ (.UnaryOp .Not a pos) (!k) ρ1 := .of (pt_not pt_tw) ⟨ha.1, fun F O σ H Q I q => ha.2 F O σ H _ I fun H1 J => q H1 J⟩
/-- as values, all truths -/
theorem c_one {op} (h : CE X ρ a x ρ1) : CE X ρ (.BoolOp op [a] pos) x ρ1 := .of (pe_one pe_tw) h
theorem c_and (ha : CE X ρ a (.bl k) ρ1) (hb : k = true → CE X ρ1 (.BoolOp .And (b :: rest) pos) (.bl l) ρ2) (hs : k = false → ρ2 = ρ1 := by intro _; rfl) : CE X ρ (.BoolOp .And (a :: b :: rest) pos) (.bl (k && l)) ρ2 := by
  cases k with
  | true => exact .of (pe_and pe_tw pe_tw) ⟨(hb rfl).1.trans ha.1, fun F O σ H Q I q => ha.2 F O σ H _ I fun v H1 J r => by
      cases r
      refine ⟨_, rfl, ?_⟩
      rw [if_pos rfl]
      exact (hb rfl).2 F O σ H1 Q J q⟩
  | false =>
    obtain rfl := hs rfl
    exact .of (pe_and pe_tw (pe_tw (X := X))) ⟨ha.1, fun F O σ H Q I q => ha.2 F O σ H _ I fun v H1 J r => by
      cases r
      refine ⟨_, rfl, ?_⟩
      rw [if_neg Bool.false_ne_true]
      exact q _ H1 J (.bl _)⟩
theorem c_or (ha : CE X ρ a (.bl k) ρ1) (hb : k = false → CE X ρ1 (.BoolOp .Or (b :: rest) pos) (.bl l) ρ2) (hs : k = true → ρ2 = ρ1 := by intro _; rfl) : CE X ρ (.BoolOp .Or (a :: b :: rest) pos) (.bl (k || l)) ρ2 := by
  cases k with
  | false => exact .of (pe_or pe_tw pe_tw) ⟨(hb rfl).1.trans ha.1, fun F O σ H Q I q => ha.2 F O σ H _ I fun v H1 J r => by
      cases r
      refine ⟨_, rfl, ?_⟩
      rw [if_neg Bool.false_ne_true]
      exact (hb rfl).2 F O σ H1 Q J q⟩
  | true =>
    obtain rfl := hs rfl
    exact .of (pe_or pe_tw (pe_tw (X := X))) ⟨ha.1, fun F O σ H Q I q => ha.2 F O σ H _ I fun v H1 J r => by
      cases r
      refine ⟨_, rfl, ?_⟩
      rw [if_pos rfl]
      exact q _ H1 J (.bl _)⟩
theorem c_not (ha : CE X ρ a (.bl k) ρ1) : CE X ρ (.UnaryOp .Not a pos) (.bl (!k)) ρ1 := .of (pe_not pe_tw) ⟨ha.1, fun F O σ H Q I q => ha.2 F O σ H _ I fun v H1 J r => by
  cases r
  exact ⟨_, rfl, q _ H1 J (.bl _)⟩⟩
theorem c_if (hc : CT X ρ c k ρ1) (h1 : k = true → CE X ρ1 a d ρ2) (h2 : k = false → CE X ρ1 b d ρ2) : CE X ρ (.IfExp c a b pos) d ρ2 := by
  refine .of (pe_ifExp pt_tw pe_tw pe_tw) ?_
  cases k with
  | true => exact ⟨(h1 rfl).1.trans hc.1, fun F O σ H Q I q => hc.2 F O σ H _ I fun H1 J => by
      rw [if_pos rfl]
      exact (h1 rfl).2 F O σ H1 Q J q⟩
  | false => exact ⟨(h2 rfl).1.trans hc.1, fun F O σ H Q I q => hc.2 F O σ H _ I fun H1 J => by
      rw [if_neg Bool.false_ne_true]
      exact (h2 rfl).2 F O σ H1 Q J q⟩
/-- the same state behind both -/
theorem c_ite {x y : D} (hc : CT X ρ c k ρ1) (h1 : k = true → CE X ρ1 a x ρ1) (h2 : k = false → CE X ρ1 b y ρ1) : CE X ρ (.IfExp c a b pos) (if k then x else y) ρ1 :=
  c_if hc (fun h => by subst h; exact h1 rfl) (fun h => by subst h; exact h2 rfl)

/-! ### arguments, tuples, lists -/
theorem d_nil : CD X ρ [] [] ρ := .of pa_nil ed_nil
theorem d_cons {ds : List D} (h : CE X ρ e d ρ1) (hr : CD X ρ1 es ds ρ2) (hs : starEach (e :: es) X.env = (false, eval e X.env) :: starEach es X.env := by rfl) : CD X ρ (e :: es) (d :: ds) ρ2 := .of (pa_cons pe_tw pa_tw hs) (ed_cons h hr)
theorem c_tup {x1} {ds : List D} (h : CD X ρ es ds ρ1) (hl : ds.length ≤ sizeLine) : CE X ρ (.Tuple es x1 pos) (.tup ds) ρ1 := .of (pe_tup pa_tw) ⟨h.1, fun F O σ H Q I q => h.2 F O σ H _ I fun vs H1 J r =>
  ⟨by rw [r.length]; exact hl, fun p hp => q _ _ (J.new hp) (.tup (.of (J.newHid hp)) (r.mono (ex_new hp)))⟩⟩
theorem n_lst {ds : List D} (h : CD X ρ es ds ρ1) (hl : ds.length ≤ sizeLine) : CN X ρ (.List es pos) ds ρ1 := .of (pe_lst pa_tw) ⟨h.1, fun F O σ H Q I q => h.2 F O σ H _ I fun vs H1 J r =>
  ⟨by rw [r.length]; exact hl, fun p hp => q p vs H1 J hp r⟩⟩
end
end VL
end

section
set_option Elab.async false
set_option linter.all false
set_option maxRecDepth 100000
set_option maxHeartbeats 4000000
namespace VL
open PySem PySem.Spec PyProof.Rows L2

section
variable {X : Cx} {e a b c : Expr} {es : List Expr} {ρ ρ1 ρ2 ρ3 : Lo} {x y z d : D} {pos p : Pos} {i j : Int} {K : PySem.W.Frag} {H : Hp}

/-! ### subscripts, slices -/
theorem Reps.at {vs : List V} {ds : List D} (r : Reps K H vs ds) (h : atI ds i = some d) : ∃ v, atI vs i = some v ∧ Rep K H v d := by
  unfold atI at h ⊢
  rw [r.length]
  cases q : ixN ds.length i with
  | none => rw [q] at h; cases h
  | some k =>
    rw [q] at h
    exact r.get (show ds[k]? = some d from h)
def cutD (xs : List D) (lo hi : Option Int) : List D := (xs.drop (HT.sIx xs.length 0 lo)).take (HT.sIx xs.length xs.length hi - HT.sIx xs.length 0 lo)
theorem Reps.cut {vs : List V} {ds : List D} (r : Reps K H vs ds) (lo hi : Option Int) : Reps K H (cutV vs lo hi) (cutD ds lo hi) := by
  unfold cutV cutD
  rw [r.length]
  exact (r.drop _).take _
theorem c_sub_ {r : R2} (hr : IxR X r) (hd : OpD X.K r x y z) (ha : CE X ρ a x ρ1) (hb : CE X ρ1 b y ρ2) (hs : PlainIx b) : CE X ρ (.Subscript a b pos) z ρ2 := .of (pe_ix hr pe_tw pe_tw hs) (ev_op hd ha hb)
theorem c_ixT {ds : List D} (ha : CE X ρ a (.tup ds) ρ1) (hb : CE X ρ1 b (.int i) ρ2) (h : atI ds i = some d) (hs : PlainIx b := by exact fun _ _ => rfl) : CE X ρ (.Subscript a b pos) d ρ2 := c_sub_ ix_tup (fun F O ρ σ H v w Q I r1 r2 q => by
  cases r2
  cases r1 with
  | tup h1 rs =>
    obtain ⟨u, e1, ru⟩ := rs.at h
    exact ⟨_, _, _, u, rfl, rfl, hid_ex.t h1, e1, q _ _ I ru⟩) ha hb hs
theorem c_ixL {ds : List D} (ha : CE X ρ a (.lst ds) ρ1) (hb : CE X ρ1 b (.int i) ρ2) (h : atI ds i = some d) (hs : PlainIx b := by exact fun _ _ => rfl) : CE X ρ (.Subscript a b pos) d ρ2 := c_sub_ ix_list (fun F O ρ σ H v w Q I r1 r2 q => by
  cases r2
  cases r1 with
  | lst h1 rs =>
    obtain ⟨u, e1, ru⟩ := rs.at h
    exact ⟨_, _, _, u, rfl, rfl, .of (hid_ex _ _ h1), e1, q _ _ I ru⟩) ha hb hs
/-- a part of a slice -/
def EO (K : PySem.W.Frag) (t : TO) (ρ : Lo) (o : Option Int) (ρ' : Lo) : Prop := owns ρ' = owns ρ ∧
  ∀ F O σ H (Q : Option Int → Hp → Prop), SOk K F O ρ σ H → (∀ H', SOk K F O ρ' σ H' → Q o H') → t σ H Q
/-- a slice's parts: an optional int -/
structure CO (X : Cx) (ρ : Lo) (e : Option Expr) (o : Option Int) (ρ' : Lo) : Prop where
  ex : ∃ t, PO X e t ∧ EO X.K t ρ o ρ'
theorem o_none : CO X ρ none none ρ := ⟨_, po_none, rfl, fun F O σ H Q I q => q H I⟩
theorem o_some (h : CE X ρ e (.int i) ρ1) : CO X ρ (some e) (some i) ρ1 := ⟨_, po_some pe_tw, h.1, fun F O σ H Q I q => h.2 F O σ H _ I fun v H1 J r => by
  cases r
  exact ⟨i, rfl, q _ J⟩⟩
theorem ev_sl {r : V → Option Int → Option Int → Hp → VK → Prop} {te : TE} {tl th : TO} {lo hi : Option Int} (h : EV X.K te ρ x ρ1) (h1 : EO X.K tl ρ1 lo ρ2) (h2 : EO X.K th ρ2 hi ρ3)
    (hd : ∀ F O σ H v (Q : VK), SOk X.K F O ρ3 σ H → Rep X.K (hid (UU O ρ3) H) v x → (∀ u H', SOk X.K F O ρ3 σ H' → Rep X.K (hid (UU O ρ3) H') u z → Q u H') → r v lo hi H Q) : EV X.K (tSl r te tl th) ρ z ρ3 :=
  ⟨h2.1.trans (h1.1.trans h.1), fun F O σ H Q I q => h.2 F O σ H _ I fun v H1 J rv => h1.2 _ O σ H1 _ J.sup fun H2 L => h2.2 _ O σ H2 _ L.sup fun H3 M =>
    hd F O σ H3 v Q ((M.weak L.le_sup L.od).weak J.le_sup J.od) (SOk.keep h2.1 M (SOk.keep h1.1 L rv)) q⟩
theorem en_sl {r : V → Option Int → Option Int → Hp → VK → Prop} {te : TE} {tl th : TO} {lo hi : Option Int} {ds : List D} (h : EV X.K te ρ x ρ1) (h1 : EO X.K tl ρ1 lo ρ2) (h2 : EO X.K th ρ2 hi ρ3)
    (hd : ∀ F O σ H v (Q : VK), SOk X.K F O ρ3 σ H → Rep X.K (hid (UU O ρ3) H) v x → (∀ p vs H1, SOk X.K F O ρ3 σ H1 → H1 p = none → Reps X.K (hid (UU O ρ3) H1) vs ds → Q (.ref p) (upd H1 p (.lst vs))) → r v lo hi H Q) : EN X.K (tSl r te tl th) ρ ds ρ3 :=
  ⟨h2.1.trans (h1.1.trans h.1), fun F O σ H Q I q => h.2 F O σ H _ I fun v H1 J rv => h1.2 _ O σ H1 _ J.sup fun H2 L => h2.2 _ O σ H2 _ L.sup fun H3 M =>
    hd F O σ H3 v Q ((M.weak L.le_sup L.od).weak J.le_sup J.od) (SOk.keep h2.1 M (SOk.keep h1.1 L rv)) q⟩
variable {lo hi : Option Expr} {l h : Option Int} {p2 : Pos}
theorem n_slL {ds : List D} (ha : CE X ρ a (.lst ds) ρ1) (hl : CO X ρ1 lo l ρ2) (hu : CO X ρ2 hi h ρ3) : CN X ρ (.Subscript a (.Slice lo hi none p2) pos) (cutD ds l h) ρ3 := by
  obtain ⟨tl, p1, e1⟩ := hl
  obtain ⟨th, p2, e2⟩ := hu
  refine .of (pe_slice sl_list pe_tw p1 p2) (en_sl ha e1 e2 fun F O σ H v Q I r q => ?_)
  cases r with
  | lst h1 rs => exact ⟨_, _, rfl, .of (hid_ex _ _ h1), fun p hp => q p _ H I hp (rs.cut _ _)⟩
theorem n_slF {ds : List D} (ha : CE X ρ a (.frl ds) ρ1) (hl : CO X ρ1 lo l ρ2) (hu : CO X ρ2 hi h ρ3) : CN X ρ (.Subscript a (.Slice lo hi none p2) pos) (cutD ds l h) ρ3 := by
  obtain ⟨tl, p1, e1⟩ := hl
  obtain ⟨th, p2, e2⟩ := hu
  refine .of (pe_slice sl_list pe_tw p1 p2) (en_sl ha e1 e2 fun F O σ H v Q I r q => ?_)
  cases r with
  | frl h1 rs => exact ⟨_, _, rfl, hid_ex.l h1, fun p hp => q p _ H I hp (rs.cut _ _)⟩
theorem cutV_whole {xs : List V} {lo hi : Option Int} (h : HT.sIx xs.length 0 lo = 0 ∧ HT.sIx xs.length xs.length hi = xs.length) : cutV xs lo hi = xs := by
  unfold cutV
  rw [h.1, h.2, List.drop_zero, Nat.sub_zero, List.take_length]
theorem c_slT {ds : List D} (ha : CE X ρ a (.tup ds) ρ1) (hl : CO X ρ1 lo l ρ2) (hu : CO X ρ2 hi h ρ3) : CE X ρ (.Subscript a (.Slice lo hi none p2) pos) (.tup (cutD ds l h)) ρ3 := by
  obtain ⟨tl, p1, e1⟩ := hl
  obtain ⟨th, p2, e2⟩ := hu
  refine .of (pe_slice sl_tupA pe_tw p1 p2) (ev_sl ha e1 e2 fun F O σ H v Q I r q => ?_)
  cases r with
  | @tup a' vs _ h1 rs =>
    refine ⟨_, _, rfl, hid_ex.t h1, fun hw => q _ H I (.tup h1 ?_), fun _ p hp => q _ _ (I.new hp) (.tup (.of (I.newHid hp)) ((rs.cut l h).mono (ex_new hp)))⟩
    have r2 := rs.cut l h
    rw [cutV_whole hw] at r2
    exact r2

/-! ### + and * of lists and tuples -/
theorem n_catL {xs ys : List D} (ha : CE X ρ a (.lst xs) ρ1) (hb : CE X ρ1 b (.lst ys) ρ2) (hl : xs.length + ys.length ≤ sizeLine) : CN X ρ (.BinOp a .Add b pos) (xs ++ ys) ρ2 := n_bin op_cat (fun F O ρ σ H v w Q I r1 r2 q => by
  cases r1 with
  | lst h1 s1 =>
    cases r2 with
    | lst h2 s2 => exact ⟨_, _, _, _, rfl, rfl, hid_ex _ _ h1, hid_ex _ _ h2, by rw [s1.length, s2.length]; exact hl, fun p hp => q p _ H I hp (s1.append s2)⟩) ha hb
theorem Reps.reps {vs : List V} {ds : List D} (r : Reps K H vs ds) : ∀ n : Nat, Reps K H (List.replicate n vs).flatten (List.replicate n ds).flatten
  | 0 => .nil
  | n + 1 => by
    rw [List.replicate_succ, List.replicate_succ, List.flatten_cons, List.flatten_cons]
    exact r.append (Reps.reps r n)
theorem n_repL {xs : List D} (ha : CE X ρ a (.lst xs) ρ1) (hb : CE X ρ1 b (.int i) ρ2) (hi : -(2 ^ 63) ≤ i ∧ i < 2 ^ 63) (hl : xs.length * i.toNat ≤ sizeLine) : CN X ρ (.BinOp a .Mult b pos) (List.replicate i.toNat xs).flatten ρ2 := n_bin op_rep (fun F O ρ σ H v w Q I r1 r2 q => by
  cases r2
  cases r1 with
  | lst h1 s1 => exact ⟨_, _, _, rfl, rfl, hid_ex _ _ h1, hi.1, hi.2, by rw [s1.length]; exact hl, fun p hp => q p _ H I hp (s1.reps _)⟩) ha hb
theorem c_catT {xs ys : List D} (ha : CE X ρ a (.tup xs) ρ1) (hb : CE X ρ1 b (.tup ys) ρ2) (hl : xs.length + ys.length ≤ sizeLine) : CE X ρ (.BinOp a .Add b pos) (.tup (xs ++ ys)) ρ2 := c_bin op_catA (fun F O ρ σ H v w Q I r1 r2 q => by
  cases r1 with
  | tup h1 s1 =>
    cases r2 with
    | tup h2 s2 =>
      refine ⟨_, _, _, _, rfl, rfl, hid_ex.t h1, hid_ex.t h2, by rw [s1.length, s2.length]; exact hl, fun e0 => ?_, fun _ e0 => ?_, fun _ _ p hp => q _ _ (I.new hp) (.tup (.of (I.newHid hp)) ((s1.append s2).mono (ex_new hp)))⟩
      · subst e0
        cases s1
        exact q _ H I (.tup h2 s2)
      · subst e0
        cases s2
        rw [List.append_nil] at q
        exact q _ H I (.tup h1 s1)) ha hb
theorem c_repT {xs : List D} (ha : CE X ρ a (.tup xs) ρ1) (hb : CE X ρ1 b (.int i) ρ2) (hn : xs ≠ []) (hi : 2 ≤ i ∧ i ≤ 1000) (hl : xs.length ≤ 1000) : CE X ρ (.BinOp a .Mult b pos) (.tup (List.replicate i.toNat xs).flatten) ρ2 := c_bin op_repT (fun F O ρ σ H v w Q I r1 r2 q => by
  cases r2
  cases r1 with
  | tup h1 s1 => exact ⟨_, _, _, rfl, rfl, hid_ex.t h1, (fun e0 => by subst e0; cases s1; exact hn rfl), hi.1, hi.2, by rw [s1.length]; exact hl, fun p hp => q _ _ (I.new hp) (.tup (.of (I.newHid hp)) ((s1.reps _).mono (ex_new hp)))⟩) ha hb

/-! ### built-ins -/
variable {x0 : Str} {bid T : String} {r : List V → Hp → VK → Prop} {ds : List D}
theorem c_blt (hc : CallR X (.builtin bid) r) (hd : CbD X.K r ds z) (hm : X.mg x0 = none) (hv : bootBuiltins x0 = some (.builtin bid)) (ha : CD X ρ (e :: es) ds ρ1) (hg : Gl X x0 := by rfl) (hn : x0 ≠ "__name__" := by decide) (hdb : (x0 == ("__debug__" : Str)) = false := by decide)
    (he : starEach (e :: es) X.env = (false, eval e X.env) :: starEach es X.env := by rfl) (hpl : (backTo pos (starEach es X.env)).any (·.1) = false := by rfl) : CE X ρ (.Call (.Name x0 p) (e :: es) [] pos) z ρ1 := .of (pe_callB hc hg hm hv pa_tw hn hdb he hpl) (ev_cb hd ha)
theorem c_btT (hc : CallR X (.type T) r) (hd : CbD X.K r ds z) (hm : X.mg x0 = none) (hv : bootBuiltins x0 = some (.type T)) (ha : CD X ρ (e :: es) ds ρ1) (hg : Gl X x0 := by rfl) (hn : x0 ≠ "__name__" := by decide) (hdb : (x0 == ("__debug__" : Str)) = false := by decide)
    (he : starEach (e :: es) X.env = (false, eval e X.env) :: starEach es X.env := by rfl) (hpl : (backTo pos (starEach es X.env)).any (·.1) = false := by rfl) : CE X ρ (.Call (.Name x0 p) (e :: es) [] pos) z ρ1 := .of (pe_callTy hc hg hm hv pa_tw hn hdb he hpl) (ev_cb hd ha)
theorem n_btT {zs : List D} (hc : CallR X (.type T) r) (hd : CbN X.K r ds zs) (hm : X.mg x0 = none) (hv : bootBuiltins x0 = some (.type T)) (ha : CD X ρ (e :: es) ds ρ1) (hg : Gl X x0 := by rfl) (hn : x0 ≠ "__name__" := by decide) (hdb : (x0 == ("__debug__" : Str)) = false := by decide)
    (he : starEach (e :: es) X.env = (false, eval e X.env) :: starEach es X.env := by rfl) (hpl : (backTo pos (starEach es X.env)).any (·.1) = false := by rfl) : CN X ρ (.Call (.Name x0 p) (e :: es) [] pos) zs ρ1 := .of (pe_callTy hc hg hm hv pa_tw hn hdb he hpl) (en_cb hd ha)
theorem n_blt {zs : List D} (hc : CallR X (.builtin bid) r) (hd : CbN X.K r ds zs) (hm : X.mg x0 = none) (hv : bootBuiltins x0 = some (.builtin bid)) (ha : CD X ρ (e :: es) ds ρ1) (hg : Gl X x0 := by rfl) (hn : x0 ≠ "__name__" := by decide) (hdb : (x0 == ("__debug__" : Str)) = false := by decide)
    (he : starEach (e :: es) X.env = (false, eval e X.env) :: starEach es X.env := by rfl) (hpl : (backTo pos (starEach es X.env)).any (·.1) = false := by rfl) : CN X ρ (.Call (.Name x0 p) (e :: es) [] pos) zs ρ1 := .of (pe_callB hc hg hm hv pa_tw hn hdb he hpl) (en_cb hd ha)
theorem one_of {vs : List V} (r : Reps K H vs [x]) : ∃ v, vs = [v] ∧ Rep K H v x := by
  cases r with
  | cons h t => cases t; exact ⟨_, rfl, h⟩
theorem two_of {vs : List V} (r : Reps K H vs [x, y]) : ∃ v w, vs = [v, w] ∧ Rep K H v x ∧ Rep K H w y := by
  cases r with
  | cons h t =>
    obtain ⟨w, rfl, h2⟩ := one_of t
    exact ⟨_, w, rfl, h, h2⟩
theorem c_lenL {ds : List D} (hm : X.mg "len" = none) (ha : CE X ρ a (.lst ds) ρ1) (hg : Gl X "len" := by rfl)
    (he : starEach [a] X.env = (false, eval a X.env) :: starEach [] X.env := by rfl) (hpl : (backTo pos (starEach [] X.env)).any (·.1) = false := by rfl) : CE X ρ (.Call (.Name "len" p) [a] [] pos) (.int (ds.length : Int)) ρ1 :=
  c_blt call_len_seq (fun F O ρ σ H vs Q I r q => by
    obtain ⟨v, rfl, ru⟩ := one_of r
    cases ru with
    | lst h1 s1 =>
      refine ⟨_, _, rfl, .inl (.of (hid_ex _ _ h1)), ?_⟩
      rw [s1.length]
      exact q _ _ I (.int _)) hm boot_len (d_cons ha d_nil he) hg (he := he) (hpl := hpl)
theorem c_lenF {ds : List D} (hm : X.mg "len" = none) (ha : CE X ρ a (.frl ds) ρ1) (hg : Gl X "len" := by rfl)
    (he : starEach [a] X.env = (false, eval a X.env) :: starEach [] X.env := by rfl) (hpl : (backTo pos (starEach [] X.env)).any (·.1) = false := by rfl) : CE X ρ (.Call (.Name "len" p) [a] [] pos) (.int (ds.length : Int)) ρ1 :=
  c_blt call_len_seq (fun F O ρ σ H vs Q I r q => by
    obtain ⟨v, rfl, ru⟩ := one_of r
    cases ru with
    | frl h1 s1 =>
      refine ⟨_, _, rfl, .inl (hid_ex.l h1), ?_⟩
      rw [s1.length]
      exact q _ _ I (.int _)) hm boot_len (d_cons ha d_nil he) hg (he := he) (hpl := hpl)
theorem c_lenT {ds : List D} (hm : X.mg "len" = none) (ha : CE X ρ a (.tup ds) ρ1) (hg : Gl X "len" := by rfl)
    (he : starEach [a] X.env = (false, eval a X.env) :: starEach [] X.env := by rfl) (hpl : (backTo pos (starEach [] X.env)).any (·.1) = false := by rfl) : CE X ρ (.Call (.Name "len" p) [a] [] pos) (.int (ds.length : Int)) ρ1 :=
  c_blt call_len_seq (fun F O ρ σ H vs Q I r q => by
    obtain ⟨v, rfl, ru⟩ := one_of r
    cases ru with
    | tup h1 s1 =>
      refine ⟨_, _, rfl, .inr (hid_ex.t h1), ?_⟩
      rw [s1.length]
      exact q _ _ I (.int _)) hm boot_len (d_cons ha d_nil he) hg (he := he) (hpl := hpl)
theorem c_abs (hm : X.mg "abs" = none) (ha : CE X ρ a (.int i) ρ1) (hg : Gl X "abs" := by rfl)
    (he : starEach [a] X.env = (false, eval a X.env) :: starEach [] X.env := by rfl) (hpl : (backTo pos (starEach [] X.env)).any (·.1) = false := by rfl) : CE X ρ (.Call (.Name "abs" p) [a] [] pos) (.int (if i < 0 then -i else i)) ρ1 :=
  c_blt call_abs (fun F O ρ σ H vs Q I r q => by
    obtain ⟨v, rfl, ru⟩ := one_of r
    cases ru
    exact ⟨_, rfl, q _ _ I (.int _)⟩) hm (by decide +kernel) (d_cons ha d_nil he) hg (he := he) (hpl := hpl)
theorem c_intI (hm : X.mg "int" = none) (ha : CE X ρ a (.int i) ρ1) (hg : Gl X "int" := by rfl)
    (he : starEach [a] X.env = (false, eval a X.env) :: starEach [] X.env := by rfl) (hpl : (backTo pos (starEach [] X.env)).any (·.1) = false := by rfl) : CE X ρ (.Call (.Name "int" p) [a] [] pos) (.int i) ρ1 :=
  c_btT call_int1 (fun F O ρ σ H vs Q I r q => by
    obtain ⟨v, rfl, ru⟩ := one_of r
    cases ru
    exact .inl ⟨_, rfl, q _ _ I (.int _)⟩) hm (by decide +kernel) (d_cons ha d_nil he) hg (he := he) (hpl := hpl)
theorem n_listL {ds : List D} (hm : X.mg "list" = none) (ha : CE X ρ a (.lst ds) ρ1) (hg : Gl X "list" := by rfl)
    (he : starEach [a] X.env = (false, eval a X.env) :: starEach [] X.env := by rfl) (hpl : (backTo pos (starEach [] X.env)).any (·.1) = false := by rfl) : CN X ρ (.Call (.Name "list" p) [a] [] pos) ds ρ1 :=
  n_btT call_list_of (fun F O ρ σ H vs Q I r q => by
    obtain ⟨v, rfl, ru⟩ := one_of r
    cases ru with
    | lst h1 s1 => exact ⟨_, _, rfl, .inl (.of (hid_ex _ _ h1)), fun l hl => q l _ H I hl s1⟩) hm (by decide +kernel) (d_cons ha d_nil he) hg (he := he) (hpl := hpl)
theorem n_listT {ds : List D} (hm : X.mg "list" = none) (ha : CE X ρ a (.tup ds) ρ1) (hg : Gl X "list" := by rfl)
    (he : starEach [a] X.env = (false, eval a X.env) :: starEach [] X.env := by rfl) (hpl : (backTo pos (starEach [] X.env)).any (·.1) = false := by rfl) : CN X ρ (.Call (.Name "list" p) [a] [] pos) ds ρ1 :=
  n_btT call_list_of (fun F O ρ σ H vs Q I r q => by
    obtain ⟨v, rfl, ru⟩ := one_of r
    cases ru with
    | tup h1 s1 => exact ⟨_, _, rfl, .inr (hid_ex.t h1), fun l hl => q l _ H I hl s1⟩) hm (by decide +kernel) (d_cons ha d_nil he) hg (he := he) (hpl := hpl)
theorem c_tupL {ds : List D} (hm : X.mg "tuple" = none) (ha : CE X ρ a (.lst ds) ρ1) (hg : Gl X "tuple" := by rfl)
    (he : starEach [a] X.env = (false, eval a X.env) :: starEach [] X.env := by rfl) (hpl : (backTo pos (starEach [] X.env)).any (·.1) = false := by rfl) : CE X ρ (.Call (.Name "tuple" p) [a] [] pos) (.tup ds) ρ1 :=
  c_btT call_tuple_of (fun F O ρ σ H vs Q I r q => by
    obtain ⟨v, rfl, ru⟩ := one_of r
    cases ru with
    | lst h1 s1 => exact ⟨_, _, rfl, .inl ⟨.of (hid_ex _ _ h1), fun l hl => q _ _ (I.new hl) (.tup (.of (I.newHid hl)) (s1.mono (ex_new hl)))⟩⟩) hm (by decide +kernel) (d_cons ha d_nil he) hg (he := he) (hpl := hpl)
theorem c_tupT {ds : List D} (hm : X.mg "tuple" = none) (ha : CE X ρ a (.tup ds) ρ1) (hg : Gl X "tuple" := by rfl)
    (he : starEach [a] X.env = (false, eval a X.env) :: starEach [] X.env := by rfl) (hpl : (backTo pos (starEach [] X.env)).any (·.1) = false := by rfl) : CE X ρ (.Call (.Name "tuple" p) [a] [] pos) (.tup ds) ρ1 :=
  c_btT call_tuple_of (fun F O ρ σ H vs Q I r q => by
    obtain ⟨v, rfl, ru⟩ := one_of r
    cases ru with
    | tup h1 s1 => exact ⟨_, _, rfl, .inr ⟨hid_ex.t h1, q _ _ I (.tup h1 s1)⟩⟩) hm (by decide +kernel) (d_cons ha d_nil he) hg (he := he) (hpl := hpl)
theorem c_sumL {ns : List Int} (hc : X.calm = true) (hm : X.mg "sum" = none) (ha : CE X ρ a (.lst (ns.map D.int)) ρ1) (hg : Gl X "sum" := by rfl)
    (he : starEach [a] X.env = (false, eval a X.env) :: starEach [] X.env := by rfl) (hpl : (backTo pos (starEach [] X.env)).any (·.1) = false := by rfl) : CE X ρ (.Call (.Name "sum" p) [a] [] pos) (.int ns.sum) ρ1 :=
  c_blt (cr_sum hc) (fun F O ρ σ H vs Q I r q => by
    obtain ⟨v, rfl, ru⟩ := one_of r
    cases ru with
    | lst h1 s1 =>
      rw [s1.ints] at h1
      exact ⟨_, _, rfl, .of (hid_ex _ _ h1), q _ _ I (.int _)⟩) hm (by decide +kernel) (d_cons ha d_nil he) hg (he := he) (hpl := hpl)
theorem c_allL {bs : List Bool} (hc : X.calm = true) (hm : X.mg "all" = none) (ha : CE X ρ a (.lst (bs.map D.bl)) ρ1) (hg : Gl X "all" := by rfl)
    (he : starEach [a] X.env = (false, eval a X.env) :: starEach [] X.env := by rfl) (hpl : (backTo pos (starEach [] X.env)).any (·.1) = false := by rfl) : CE X ρ (.Call (.Name "all" p) [a] [] pos) (.bl (bs.all id)) ρ1 :=
  c_blt (cr_all hc) (fun F O ρ σ H vs Q I r q => by
    obtain ⟨v, rfl, ru⟩ := one_of r
    cases ru with
    | lst h1 s1 =>
      rw [s1.bls] at h1
      exact ⟨_, _, rfl, .of (hid_ex _ _ h1), q _ _ I (.bl _)⟩) hm (by decide +kernel) (d_cons ha d_nil he) hg (he := he) (hpl := hpl)
theorem c_anyL {bs : List Bool} (hc : X.calm = true) (hm : X.mg "any" = none) (ha : CE X ρ a (.lst (bs.map D.bl)) ρ1) (hg : Gl X "any" := by rfl)
    (he : starEach [a] X.env = (false, eval a X.env) :: starEach [] X.env := by rfl) (hpl : (backTo pos (starEach [] X.env)).any (·.1) = false := by rfl) : CE X ρ (.Call (.Name "any" p) [a] [] pos) (.bl (bs.any id)) ρ1 :=
  c_blt (cr_any hc) (fun F O ρ σ H vs Q I r q => by
    obtain ⟨v, rfl, ru⟩ := one_of r
    cases ru with
    | lst h1 s1 =>
      rw [s1.bls] at h1
      exact ⟨_, _, rfl, .of (hid_ex _ _ h1), q _ _ I (.bl _)⟩) hm (by decide +kernel) (d_cons ha d_nil he) hg (he := he) (hpl := hpl)
end

/-! ### an own list read in passing -/
mutual
/-- no list, dict, instance within -/
def immut : D → Bool
  | .tup l => immutL l
  | .lst _ => false
  | .frl _ => false
  | .dic _ => false
  | .ins _ _ => false
  | .exc _ _ _ => false
  | .adr _ => true
  | _ => true
def immutL : List D → Bool
  | [] => true
  | d :: ds => immut d && immutL ds
end
section
variable {X : Cx} {e : Expr} {ρ ρ1 : Lo} {d : D} {K : PySem.W.Frag} {H : Hp} {F : Hp} {O : Addr → Prop} {σ : L2.St} {i : Nat} {p : Addr} {ds : List D}
theorem immutL_ints : ∀ ns : List Int, immutL (ns.map D.int) = true
  | [] => rfl
  | n :: ns => by rw [List.map_cons]; unfold immutL; rw [immutL_ints ns]; rfl
theorem immutL_bls : ∀ ns : List Bool, immutL (ns.map D.bl) = true
  | [] => rfl
  | n :: ns => by rw [List.map_cons]; unfold immutL; rw [immutL_bls ns]; rfl
mutual
theorem Rep.hide {U U' : Addr → Prop} (h : ∀ a, ¬ U a → U' a → ∃ vs, H a = some (.lst vs)) : ∀ {v : V} {d : D}, immut d = true → Rep K (hid U H) v d → Rep K (hid U' H) v d
  | _, _, _, .non => .non
  | _, _, _, .bl b => .bl b
  | _, _, _, .int i => .int i
  | _, _, _, .str x => .str x
  | _, _, _, .ty n => .ty n
  | _, _, _, .adr a => .adr a
  | _, _, m, .tup q r => by
    refine .tup ?_ (Reps.hide h m r)
    rcases q with q | q
    · refine .inl ?_
      rcases q with q | ⟨o, q⟩
      · obtain ⟨n, q⟩ := of_hid q
        refine .inl (hid_of (fun z => ?_) q)
        obtain ⟨vs, e⟩ := h _ n z
        rw [e] at q
        cases q
      · obtain ⟨n, q⟩ := of_hid q
        refine .inr ⟨o, hid_of (fun z => ?_) q⟩
        obtain ⟨vs, e⟩ := h _ n z
        rw [e] at q
        cases q
    · exact .inr q
  | _, _, m, .lst q r => nomatch m
  | _, _, m, .frl q r => nomatch m
  | _, _, m, .dic q r => nomatch m
  | _, _, m, .ins q r => nomatch m
  | _, _, m, .exc q r => nomatch m
theorem Reps.hide {U U' : Addr → Prop} (h : ∀ a, ¬ U a → U' a → ∃ vs, H a = some (.lst vs)) : ∀ {v : List V} {d : List D}, immutL d = true → Reps K (hid U H) v d → Reps K (hid U' H) v d
  | _, _, _, .nil => .nil
  | _, _, m, .cons q r => by
    unfold immutL at m
    rw [Bool.and_eq_true] at m
    exact .cons (Rep.hide h m.1 q) (Reps.hide h m.2 r)
end
theorem owns_set_dat (hi : ρ[i]? = some (.mut p ds)) (a : Addr) : owns (ρ.set i (.dat d)) a → owns ρ a := fun ⟨es, h⟩ => by
  rcases List.mem_or_eq_of_mem_set h with h | h
  · exact ⟨es, h⟩
  · cases h
/-- the own list of slot i let go: it is a datum from here on -/
theorem SOk.freeze (I : SOk K F O ρ σ H) (hi : ρ[i]? = some (.mut p ds)) : SOk K F O (ρ.set i (.dat (.lst ds))) σ H := by
  have hl : i < ρ.length := (List.getElem?_eq_some_iff.mp hi).1
  have nown : ¬ owns (ρ.set i (.dat (.lst ds))) p := fun ⟨es, h⟩ => by
    obtain ⟨k, hk⟩ := List.getElem?_of_mem h
    by_cases e : i = k
    · subst e
      rw [List.getElem?_set_self hl] at hk
      cases hk
    · rw [List.getElem?_set_ne e] at hk
      exact e (I.nd i k p ds es hi hk)
  have sub : ∀ a, UU O (ρ.set i (.dat (.lst ds))) a → UU O ρ a := fun a z => z.elim .inl fun z => .inr (owns_set_dat hi a z)
  have ex : Ex (hid (UU O ρ) H) (hid (UU O (ρ.set i (.dat (.lst ds)))) H) := ex_hid fun a o _ n h => ⟨fun z => n (sub a z), h⟩
  have nO : ¬ O p := I.nO ⟨ds, List.mem_of_getElem? hi⟩
  refine ⟨by rw [List.length_set]; exact I.len, fun k d hk => ?_, fun k q es hk => ?_, fun k l q es es' hk hl' => ?_, I.fr, I.od, I.tb, I.ft⟩
  · by_cases e : i = k
    · subst e
      rw [List.getElem?_set_self hl] at hk
      cases hk
      obtain ⟨h1, _, vs, h2, h3⟩ := I.mt i p ds hi
      exact ⟨.ref p, h1, .lst (hid_of (fun z => z.elim nO nown) h2) (h3.mono ex)⟩
    · rw [List.getElem?_set_ne e] at hk
      obtain ⟨v, h1, h2⟩ := I.dat k d hk
      exact ⟨v, h1, h2.mono ex⟩
  · by_cases e : i = k
    · subst e
      rw [List.getElem?_set_self hl] at hk
      cases hk
    · rw [List.getElem?_set_ne e] at hk
      obtain ⟨h1, h2, vs, h3, h4⟩ := I.mt k q es hk
      exact ⟨h1, h2, vs, h3, h4.mono ex⟩
  · by_cases e : i = k
    · subst e
      rw [List.getElem?_set_self hl] at hk
      cases hk
    · by_cases e' : i = l
      · subst e'
        rw [List.getElem?_set_self hl] at hl'
        cases hl'
      · rw [List.getElem?_set_ne e] at hk
        rw [List.getElem?_set_ne e'] at hl'
        exact I.nd k l q es es' hk hl'
end
end VL
end

section
set_option Elab.async false
set_option linter.all false
set_option maxRecDepth 100000
set_option maxHeartbeats 4000000
namespace VL
open PySem PySem.Spec PyProof.Rows L2

/-! ### an own list read in passing -/
def frz : Lo → Lo := List.map fun
  | .mut _ ds => .dat (.lst ds)
  | s => s
section
variable {X : Cx} {e : Expr} {ρ ρ1 ρ2 : Lo} {d : D} {K : PySem.W.Frag} {H H' : Hp} {F : Hp} {O : Addr → Prop} {σ : L2.St} {i : Nat} {p : Addr} {ds : List D}
theorem frz_get {k : Nat} {s : Sl} (h : (frz ρ)[k]? = some s) : (∃ p ds, ρ[k]? = some (.mut p ds) ∧ s = .dat (.lst ds)) ∨ (ρ[k]? = some s ∧ ∀ p ds, s ≠ .mut p ds) := by
  unfold frz at h
  rw [List.getElem?_map] at h
  cases q : ρ[k]? with
  | none => rw [q] at h; cases h
  | some t =>
    rw [q] at h
    cases t with
    | un => cases h; exact .inr ⟨rfl, fun _ _ z => nomatch z⟩
    | dat d => cases h; exact .inr ⟨rfl, fun _ _ z => nomatch z⟩
    | «mut» p ds => cases h; exact .inl ⟨p, ds, rfl, rfl⟩
theorem frz_owns {a : Addr} : ¬ owns (frz ρ) a := fun ⟨ds, h⟩ => by
  obtain ⟨k, hk⟩ := List.getElem?_of_mem h
  rcases frz_get hk with ⟨p, es, _, z⟩ | ⟨_, z⟩
  · cases z
  · exact z _ _ rfl
theorem SOk.ext (I : SOk K F O ρ σ H) (e : ExN H H') (tb : TB H') : SOk K F O ρ σ H' := by
  have exh : Ex (hid (UU O ρ) H) (hid (UU O ρ) H') := ex_hid fun a u t n h => ⟨n, e a u t h⟩
  refine ⟨I.len, fun i d h => ?_, fun i q ds h => ?_, I.nd, fun a o h => e a o (I.ft a o h) (I.fr a o h), I.od, tb, I.ft⟩
  · obtain ⟨v, h1, h2⟩ := I.dat i d h
    exact ⟨v, h1, h2.mono exh⟩
  · obtain ⟨h1, h2, vs, h3, h4⟩ := I.mt i q ds h
    exact ⟨h1, h2, vs, e _ _ inferInstance h3, h4.mono exh⟩
theorem SOk.frzAll (I : SOk K F O ρ σ H) : SOk K F O (frz ρ) σ H := by
  have ex : Ex (hid (UU O ρ) H) (hid (UU O (frz ρ)) H) := ex_hid fun a o _ n h => ⟨fun z => z.elim (fun z => n (.inl z)) frz_owns, h⟩
  refine ⟨by unfold frz; rw [List.length_map]; exact I.len, fun k d hk => ?_, fun k q es hk => ?_, fun k l q es es' hk hl' => ?_, I.fr, I.od, I.tb, I.ft⟩
  · rcases frz_get hk with ⟨p, ds, h1, h2⟩ | ⟨h1, _⟩
    · cases h2
      obtain ⟨q1, _, vs, q2, q3⟩ := I.mt k p ds h1
      exact ⟨.ref p, q1, .lst (hid_of (fun z => z.elim (I.nO ⟨ds, List.mem_of_getElem? h1⟩) frz_owns) q2) (q3.mono ex)⟩
    · obtain ⟨v, q1, q2⟩ := I.dat k d h1
      exact ⟨v, q1, q2.mono ex⟩
  · exact absurd ⟨es, List.mem_of_getElem? hk⟩ frz_owns
  · exact absurd ⟨es, List.mem_of_getElem? hk⟩ frz_owns
theorem Ex.frzSup (J : SOk K (VL.sup (frz ρ) H) O ρ2 σ H') : ExN H H' := fun a o _ h => J.fr a o (hid_of frz_owns h)
theorem c_bor (him : immut d = true) (h : CE X (frz ρ) e d (frz ρ)) : CE X ρ e d ρ := ⟨rfl, fun F O σ H Q I q => h.2 _ O σ H Q I.frzAll.sup fun v H' J r => by
  have e1 := Ex.frzSup J
  have I' := I.ext e1 J.tb
  exact q v H' I' (Rep.hide (fun a n z => by
    rcases z with z | z
    · exact absurd (.inl z) n
    · exact I'.ownH z) him r)⟩
theorem n_bor (him : immutL ds = true) (h : CN X (frz ρ) e ds (frz ρ)) : CN X ρ e ds ρ := ⟨rfl, fun F O σ H Q I q => h.2 _ O σ H Q I.frzAll.sup fun p vs H1 J hp r => by
  have e1 := Ex.frzSup J
  have I' := I.ext e1 J.tb
  exact q p vs H1 I' hp (Reps.hide (fun a n z => by
    rcases z with z | z
    · exact absurd (.inl z) n
    · exact I'.ownH z) him r)⟩
theorem t_bor {k : Bool} (h : CT X (frz ρ) e k (frz ρ)) : CT X ρ e k ρ := ⟨rfl, fun F O σ H Q I q => h.2 _ O σ H Q I.frzAll.sup fun H' J => q H' (I.ext (Ex.frzSup J) J.tb)⟩

/-! ### defs: what they promise -/
structure Er where
  C : Addr
  fs : List (Str × D)
def ErRep (K : PySem.W.Frag) (H : Hp) (cls : Value) (dd : Option Addr) (e : Er) : Prop :=
  cls = .ref e.C ∧ ((e.fs = [] ∧ dd = none) ∨ ∃ a fvs, dd = some a ∧ H a = some (.xd fvs) ∧ RepF K H fvs e.fs)
abbrev Res := Except Er D
abbrev Spec := Lo → (Res → Lo → Prop) → Prop
/-- what a def hands back, and what it leaves -/
def Post (K : PySem.W.Frag) (F : Hp) (O : Addr → Prop) (vs : List V) (ρ : Lo) (Q : VK) (E : XK) (r : Res) (ρ' : Lo) : Prop := owns ρ' = owns ρ → ∀ H', SOk K F O ρ' (vs.map some) H' →
  match r with
  | .ok d => ∀ v, Rep K (hid (UU O ρ') H') v d → Q v H'
  | .error e => ∀ cls dd, ErRep K (hid (UU O ρ') H') cls dd e → E cls dd H'
def spV (K : PySem.W.Frag) (S : Spec) : Sp := fun vs H Q E => ∃ O ρ, SOk K (VL.sup ρ H) O ρ (vs.map some) H ∧ S ρ (Post K (VL.sup ρ H) O vs ρ Q E)
structure FnV (P : Program) (w : World) (K : PySem.W.Frag) (mg : Str → Option Value) (base : Heap) (k : Nat) (x : Str) (S : Spec) : Prop where
  mono : ∀ ρ (R R' : Res → Lo → Prop), (∀ r ρ', R r ρ' → R' r ρ') → S ρ R → S ρ R'
  ex : ∃ f fd ps, FnOk P w K mg base (L2N.CX P w) k f fd ps (spV K S) ∧ mg x = some (.ref f) ∧ PySem.W.keepIn K (.ref f) = true ∧ Binds K fd ps []
theorem FnV.up {P : Program} {w : World} {mg : Str → Option Value} {base : Heap} {j k : Nat} {x : Str} {S : Spec} (F : FnV P w K mg base j x S) (h : j ≤ k) : FnV P w K mg base k x S :=
  ⟨F.mono, let ⟨f, fd, ps, a, b⟩ := F.ex; ⟨f, fd, ps, a.mono h, b⟩⟩
/-- data to a result, nothing changed -/
def detS (A : List D → Res → Prop) : Spec := fun ρ R => ∃ ds r, ρ = ds.map .dat ∧ A ds r ∧ R r ρ
theorem detS_mono {A : List D → Res → Prop} : ∀ ρ (R R' : Res → Lo → Prop), (∀ r ρ', R r ρ' → R' r ρ') → detS A ρ R → detS A ρ R' := fun _ _ _ h ⟨ds, r, e, a, q⟩ => ⟨ds, r, e, a, h _ _ q⟩
theorem owns_dats {ds : List D} {a : Addr} : ¬ owns (ds.map .dat) a := fun ⟨es, h⟩ => by
  obtain ⟨d, _, z⟩ := List.mem_map.mp h
  cases z
theorem hid_congr {U U' : Addr → Prop} (h : ∀ a, U a ↔ U' a) : hid U H = hid U' H := by
  have e : U = U' := funext fun a => propext (h a)
  rw [e]
theorem args_ok {vs : List V} {U : Addr → Prop} (r : Reps K (hid U H) vs ds) (od : ∀ a, U a → ∃ o, H a = some o ∧ NT o) (tb : TB H) : SOk K (VL.sup (ds.map .dat) H) U (ds.map .dat) (vs.map some) H := by
  have eu : ∀ a, U a ↔ UU U (ds.map .dat) a := fun a => ⟨.inl, fun z => z.elim id fun z => absurd z owns_dats⟩
  refine ⟨by rw [List.length_map, List.length_map, r.length], fun i d h => ?_, fun i p es h => ?_, fun i j p es es' h => ?_, hid_ex, fun a o => ?_, tb, fun _ _ h => nt_hid h⟩
  · rw [List.getElem?_map] at h
    cases q : ds[i]? with
    | none => rw [q] at h; cases h
    | some d' =>
      rw [q] at h
      cases h
      obtain ⟨v, e1, e2⟩ := r.get q
      refine ⟨v, by rw [List.getElem?_map, e1]; rfl, ?_⟩
      rw [← hid_congr eu]
      exact e2
  · exact absurd ⟨es, List.mem_of_getElem? h⟩ owns_dats
  · exact absurd ⟨es, List.mem_of_getElem? h⟩ owns_dats
  · obtain ⟨u, e, t⟩ := od a o
    exact ⟨u, hid_of owns_dats e⟩
theorem ex_dats {ds : List D} (J : SOk K (VL.sup (ds.map .dat) H) O ρ2 σ H') : ExN H H' := fun a o _ h => J.fr a o (hid_of owns_dats h)
theorem SOk.odU (I : SOk K F O ρ σ H) : ∀ a, UU O ρ a → ∃ o, H a = some o ∧ NT o := fun a z => by
  rcases z with z | z
  · obtain ⟨u, e⟩ := I.od a z
    exact ⟨u, I.fr a u e, I.ft a u e⟩
  · obtain ⟨vs, e⟩ := I.ownH z
    exact ⟨_, e, inferInstance⟩
section
variable {k : Nat} {x : Str} {S : Spec} {p pos : Pos} {es : List Expr}
/-- f(e, ..) on data, nothing raised -/
theorem c_call (Fn : FnV X.prog X.w X.K X.mg X.base k x S) (hr : Room k X.A) (ha : CD X ρ (e :: es) ds ρ1) (hS : ∀ R : Res → Lo → Prop, R (.ok d) (ds.map .dat) → S (ds.map .dat) R) (hg : Gl X x := by rfl) (hdb : (x == ("__debug__" : Str)) = false := by decide)
    (he : starEach (e :: es) X.env = (false, eval e X.env) :: starEach es X.env := by rfl) (hpl : (backTo pos (starEach es X.env)).any (·.1) = false := by rfl) : CE X ρ (.Call (.Name x p) (e :: es) [] pos) d ρ1 := by
  obtain ⟨f, fd, ps, hF, hm, hk, hb⟩ := Fn.ex
  refine .of (pe_call hF hr hg hm hk hb .nil passLN pa_tw hdb he hpl) ⟨ha.1, fun F O σ H Q I q => ha.2 F O σ H _ I fun vs H1 J r => ?_⟩
  refine ⟨UU O ρ1, ds.map .dat, ?_, ?_⟩
  · rw [List.append_nil]
    exact args_ok r J.odU J.tb
  · refine hS _ fun _ H' L v rv => q v H' (J.ext (ex_dats L) L.tb) ?_
    rw [hid_congr (U := UU O ρ1) (U' := UU (UU O ρ1) (ds.map .dat)) fun a => ⟨.inl, fun z => z.elim id fun z => absurd z owns_dats⟩]
    exact rv
end
end

/-! ### targets -/
inductive Tg where
  | nm (i : Nat) | tp (l : List Tg)
mutual
def gOf (K : PySem.W.Frag) : Tg → TG
  | .nm i => gName i
  | .tp l => gTup K l.length (gsOf K l)
def gsOf (K : PySem.W.Frag) : List Tg → TGs
  | [] => gNil
  | t :: l => gCons (gOf K t) (gsOf K l)
end
mutual
inductive Bind : Tg → D → Lo → Lo → Prop
  | nm {i : Nat} {d : D} {ρ : Lo} : Bind (.nm i) d ρ (ρ.set i (.dat d))
  | tp {l : List Tg} {ds : List D} {ρ ρ' : Lo} : BindL l ds ρ ρ' → Bind (.tp l) (.tup ds) ρ ρ'
inductive BindL : List Tg → List D → Lo → Lo → Prop
  | nil {ρ : Lo} : BindL [] [] ρ ρ
  | cons {t : Tg} {l : List Tg} {d : D} {ds : List D} {ρ ρ1 ρ2 : Lo} : Bind t d ρ ρ1 → BindL l ds ρ1 ρ2 → BindL (t :: l) (d :: ds) ρ ρ2
end
mutual
def Tg.slots : Tg → List Nat
  | .nm i => [i]
  | .tp l => slotsL l
def slotsL : List Tg → List Nat
  | [] => []
  | t :: l => t.slots ++ slotsL l
end
mutual
theorem Bind.len2 : ∀ {T : Tg} {d : D} {ρ ρ' : Lo}, Bind T d ρ ρ' → ρ'.length = ρ.length
  | _, _, _, _, .nm => List.length_set
  | _, _, _, _, .tp b => b.len2
theorem BindL.len2 : ∀ {l : List Tg} {ds : List D} {ρ ρ' : Lo}, BindL l ds ρ ρ' → ρ'.length = ρ.length
  | _, _, _, _, .nil => rfl
  | _, _, _, _, .cons b bl => bl.len2.trans b.len2
end
section
variable {X : Cx} {e : Expr} {ρ ρ1 ρ2 : Lo} {d : D} {K : PySem.W.Frag} {H H' : Hp} {F : Hp} {O : Addr → Prop} {σ : L2.St} {i : Nat} {p : Addr} {ds : List D}
theorem owns_set {a : Addr} {s : Sl} (hs : ∀ p ds, s ≠ .mut p ds) : owns (ρ.set i s) a → owns ρ a := fun ⟨es, h⟩ => by
  rcases List.mem_or_eq_of_mem_set h with h | h
  · exact ⟨es, h⟩
  · exact absurd h.symm (hs _ _)
theorem UU_set {a : Addr} {s : Sl} (hs : ∀ p ds, s ≠ .mut p ds) : UU O (ρ.set i s) a → UU O ρ a := fun z => z.elim .inl fun z => .inr (owns_set hs z)
theorem datNe : ∀ (p : Addr) (ds : List D), Sl.dat d ≠ .mut p ds := fun p ds z => by cases z
/-- a datum stored -/
theorem SOk.set {v : V} (I : SOk K F O ρ σ H) (r : Rep K (hid (UU O ρ) H) v d) : SOk K F O (ρ.set i (.dat d)) (σ.set i (some v)) H := by
  have ex : Ex (hid (UU O ρ) H) (hid (UU O (ρ.set i (.dat d))) H) := ex_hid fun a o _ n h => ⟨fun z => n (UU_set datNe z), h⟩
  refine ⟨by rw [List.length_set, List.length_set]; exact I.len, fun k d' hk => ?_, fun k q es hk => ?_, fun k l q es es' hk hl => ?_, I.fr, I.od, I.tb, I.ft⟩
  · by_cases e : i = k
    · subst e
      have hl : i < ρ.length := by
        have := (List.getElem?_eq_some_iff.mp hk).1
        rw [List.length_set] at this
        exact this
      rw [List.getElem?_set_self hl] at hk
      cases hk
      exact ⟨v, List.getElem?_set_self (by rw [I.len]; exact hl), r.mono ex⟩
    · rw [List.getElem?_set_ne e] at hk
      obtain ⟨u, h1, h2⟩ := I.dat k d' hk
      exact ⟨u, by rw [List.getElem?_set_ne e]; exact h1, h2.mono ex⟩
  · by_cases e : i = k
    · subst e
      have hl : i < ρ.length := by
        have := (List.getElem?_eq_some_iff.mp hk).1
        rw [List.length_set] at this
        exact this
      rw [List.getElem?_set_self hl] at hk
      cases hk
    · rw [List.getElem?_set_ne e] at hk
      obtain ⟨h1, h2, vs, h3, h4⟩ := I.mt k q es hk
      exact ⟨by rw [List.getElem?_set_ne e]; exact h1, h2, vs, h3, h4.mono ex⟩
  · have ne : ∀ {k : Nat} {q : Addr} {es : List D}, (ρ.set i (.dat d))[k]? = some (.mut q es) → i ≠ k := fun {k q es} hk e => by
      subst e
      have hl : i < ρ.length := by
        have := (List.getElem?_eq_some_iff.mp hk).1
        rw [List.length_set] at this
        exact this
      rw [List.getElem?_set_self hl] at hk
      cases hk
    have n1 := ne hk
    have n2 := ne hl
    rw [List.getElem?_set_ne n1] at hk
    rw [List.getElem?_set_ne n2] at hl
    exact I.nd k l q es es' hk hl
mutual
theorem Bind.run : ∀ {T : Tg} {d : D} {ρ ρ' : Lo} {v : V} {σ : L2.St} {Q : L2.St → Hp → Prop}, Bind T d ρ ρ' → SOk K F O ρ σ H → Rep K (hid (UU O ρ) H) v d →
    (∀ σ', SOk K F O ρ' σ' H → (∀ k, k ∉ T.slots → σ'[k]? = σ[k]?) → (∀ (v : V) (d : D), Rep K (hid (UU O ρ) H) v d → Rep K (hid (UU O ρ') H) v d) → Q σ' H) → gOf K T v σ H Q
  | _, _, _, _, v, σ, Q, .nm, I, r, q => q _ (I.set r) (fun k hk => List.getElem?_set_ne fun e => hk (by rw [e]; exact List.mem_cons_self)) fun w e re => re.mono (ex_hid fun a o _ n h => ⟨fun z => n (UU_set datNe z), h⟩)
  | _, _, _, _, _, σ, Q, .tp b, I, .tup h1 rs, q => ⟨_, _, rfl, hid_ex.t h1, by rw [rs.length]; exact (BindL.len b).symm, BindL.run b I rs fun σ' J hk hr => q σ' J hk hr⟩
theorem BindL.run : ∀ {l : List Tg} {ds : List D} {ρ ρ' : Lo} {vs : List V} {σ : L2.St} {Q : L2.St → Hp → Prop}, BindL l ds ρ ρ' → SOk K F O ρ σ H → Reps K (hid (UU O ρ) H) vs ds →
    (∀ σ', SOk K F O ρ' σ' H → (∀ k, k ∉ slotsL l → σ'[k]? = σ[k]?) → (∀ (v : V) (d : D), Rep K (hid (UU O ρ) H) v d → Rep K (hid (UU O ρ') H) v d) → Q σ' H) → gsOf K l vs σ H Q
  | _, _, _, _, _, σ, Q, .nil, I, .nil, q => ⟨rfl, q σ I (fun _ _ => rfl) fun _ _ r => r⟩
  | _, _, _, _, _, σ, Q, .cons b bl, I, .cons r rs, q => ⟨_, _, rfl, Bind.run b I r fun σ1 J hk hr => BindL.run bl J (repsMap hr rs) fun σ2 L hk2 hr2 => q σ2 L (fun k hn => (hk2 k fun z => hn (List.mem_append_right _ z)).trans (hk k fun z => hn (List.mem_append_left _ z))) fun w e re => hr2 w e (hr w e re)⟩
theorem BindL.len : ∀ {l : List Tg} {ds : List D} {ρ ρ' : Lo}, BindL l ds ρ ρ' → l.length = ds.length
  | _, _, _, _, .nil => rfl
  | _, _, _, _, .cons _ bl => by rw [List.length_cons, List.length_cons, bl.len]
theorem repsMap {H1 H2 : Hp} (h : ∀ (v : V) (d : D), Rep K H1 v d → Rep K H2 v d) : ∀ {vs : List V} {ds : List D}, Reps K H1 vs ds → Reps K H2 vs ds
  | _, _, .nil => .nil
  | _, _, .cons r rs => .cons (h _ _ r) (repsMap h rs)
end
end
end VL
end

section
set_option Elab.async false
set_option linter.all false
set_option maxRecDepth 100000
set_option maxHeartbeats 4000000
namespace VL
open PySem PySem.Spec PyProof.Rows L2

/-! ### statements -/
structure WE where
  nx : Lo → Prop
  rt : D → Lo → Prop
  bk : Lo → Prop := fun _ => False
  ct : Lo → Prop := fun _ => False
  er : Er → Lo → Prop := fun _ _ => False
structure Real (X : Cx) (F : Hp) (O : Addr → Prop) (W : WE) (D : Ends) : Prop where
  nx : ∀ ρ σ H, W.nx ρ → SOk X.K F O ρ σ H → D.nx σ H
  rt : ∀ d ρ σ H v, W.rt d ρ → SOk X.K F O ρ σ H → Rep X.K (hid (UU O ρ) H) v d → D.rt v H
  bk : ∀ ρ σ H, W.bk ρ → SOk X.K F O ρ σ H → D.bk σ H
  ct : ∀ ρ σ H, W.ct ρ → SOk X.K F O ρ σ H → D.ct σ H
  er : ∃ Wx : WX, L2N.Takes X Wx ∧ ∀ e ρ σ H cls dd, W.er e ρ → SOk X.K F O ρ σ H → ErRep X.K (hid (UU O ρ) H) cls dd e → Wx cls dd σ H
/-- the context of a body -/
structure Bd (X : Cx) : Prop where
  calm : X.calm = true
  nd : X.N.Nodup
  ps : PassesOwn (model X.prog X.w) X.A X.env X.xe
structure Bdn (X : Cx) : Prop where
  nd : X.N.Nodup
instance {X : Cx} : Coe (Bd X) (Bdn X) := ⟨fun B => ⟨B.nd⟩⟩
def CS (X : Cx) (ρ : Lo) (st : Stmt) (W : WE) : Prop := ∀ F O σ H D, SOk X.K F O ρ σ H → Real X F O W D → ∀ (pins : List (Addr × Obj)) (s : Shared), Inv X pins σ H s → wpAny (model X.prog X.w) X.A (exec st X.env) (SP X pins D) X.xe s
def CSs (X : Cx) (ρ : Lo) (ss : List Stmt) (W : WE) : Prop := ∀ F O σ H D, SOk X.K F O ρ σ H → Real X F O W D → ∀ (pins : List (Addr × Obj)) (s : Shared), Inv X pins σ H s → wpAny (model X.prog X.w) X.A (execs ss X.env) (SP X pins D) X.xe s
def tws (X : Cx) (st : Stmt) : TS := fun D σ H => ∀ (pins : List (Addr × Obj)) (s : Shared), Inv X pins σ H s → wpAny (model X.prog X.w) X.A (exec st X.env) (SP X pins D) X.xe s
def twss (X : Cx) (ss : List Stmt) : TS := fun D σ H => ∀ (pins : List (Addr × Obj)) (s : Shared), Inv X pins σ H s → wpAny (model X.prog X.w) X.A (execs ss X.env) (SP X pins D) X.xe s
/-- an expression with all its outcomes -/
def CQ (X : Cx) (ρ : Lo) (e : Expr) (R : Res → Lo → Prop) : Prop := ∀ F O σ H (Q : VK) (Wx : WX), SOk X.K F O ρ σ H → L2N.Takes X Wx →
  (∀ d ρ' v H', R (.ok d) ρ' → owns ρ' = owns ρ → SOk X.K F O ρ' σ H' → Rep X.K (hid (UU O ρ') H') v d → Q v H') →
  (∀ er ρ' H' cls dd, R (.error er) ρ' → SOk X.K F O ρ' σ H' → ErRep X.K (hid (UU O ρ') H') cls dd er → Wx cls dd σ H') →
  ∀ (pins : List (Addr × Obj)) (s : Shared), Inv X pins σ H s → wpAny (model X.prog X.w) X.A (eval e X.env) (EP X pins σ Q) X.xe s
section
variable {X : Cx} {e a b c : Expr} {es : List Expr} {ρ ρ1 ρ2 ρ' : Lo} {x y d : D} {pos p p2 : Pos} {st : Stmt} {ss rest A B : List Stmt} {W W' : WE} {F F' : Hp} {O : Addr → Prop} {σ : L2.St} {H H' : Hp} {E : Ends} {i j : Nat} {n m : Str} {ds : List D} {q : Addr}
theorem ps_tw : PS X st (tws X st) := ⟨fun pins s _ _ _ I h => h pins s I⟩
theorem pss_tw : PSs X ss (twss X ss) := ⟨fun pins s _ _ _ I h => h pins s I⟩
theorem Real.up (r : Real X F O W E) (e : Ex F F') (od : ∀ a, O a → ∃ o, F a = some o) : Real X F' O W E :=
  ⟨fun ρ σ H h I => r.nx ρ σ H h (I.weak e od), fun d ρ σ H v h I q => r.rt d ρ σ H v h (I.weak e od) q, fun ρ σ H h I => r.bk ρ σ H h (I.weak e od), fun ρ σ H h I => r.ct ρ σ H h (I.weak e od),
    let ⟨Wx, t, h⟩ := r.er; ⟨Wx, t, fun er ρ σ H cls dd w I q => h er ρ σ H cls dd w (I.weak e od) q⟩⟩
/-- another normal end -/
theorem Real.nxt {N : L2.St → Hp → Prop} {P : Lo → Prop} (r : Real X F O W E) (h : ∀ ρ σ H, P ρ → SOk X.K F O ρ σ H → N σ H) : Real X F O { W with nx := P } { E with nx := N } := ⟨h, r.rt, r.bk, r.ct, r.er⟩
theorem CSs.imp (h : CSs X ρ ss W) (n1 : ∀ ρ, W.nx ρ → W'.nx ρ) (n2 : ∀ d ρ, W.rt d ρ → W'.rt d ρ) (n3 : ∀ ρ, W.bk ρ → W'.bk ρ) (n4 : ∀ ρ, W.ct ρ → W'.ct ρ) (n5 : ∀ er ρ, W.er er ρ → W'.er er ρ) : CSs X ρ ss W' :=
  fun F O σ H E I r => h F O σ H E I ⟨fun ρ σ H w J => r.nx ρ σ H (n1 ρ w) J, fun d ρ σ H v w J q => r.rt d ρ σ H v (n2 d ρ w) J q, fun ρ σ H w J => r.bk ρ σ H (n3 ρ w) J, fun ρ σ H w J => r.ct ρ σ H (n4 ρ w) J,
    let ⟨Wx, t, h⟩ := r.er; ⟨Wx, t, fun er ρ σ H cls dd w J q => h er ρ σ H cls dd (n5 er ρ w) J q⟩⟩
theorem css_nil (h : W.nx ρ) : CSs X ρ [] W := fun F O σ H E I r pins s J => pss_nil.run pins s σ H E J (r.nx ρ σ H h I)
theorem css_cons (h : CS X ρ st { W with nx := fun ρ' => CSs X ρ' rest W }) : CSs X ρ (st :: rest) W := fun F O σ H E I r pins s J =>
  (pss_cons ps_tw (pss_tw (ss := rest))).run pins s σ H E J (h F O σ H _ I (r.nxt fun ρ' σ' H' k I' => k F O σ' H' E I' r))
theorem css_of {t : TS} (hp : PS X st t) (h : ∀ F O σ H E, SOk X.K F O ρ σ H → Real X F O { W with nx := fun ρ' => CSs X ρ' rest W } E → t E σ H) : CSs X ρ (st :: rest) W :=
  css_cons fun F O σ H E I r pins s J => hp.run pins s σ H E J (h F O σ H E I r)
/-- let an own list go -/
theorem css_freeze (hi : ρ[i]? = some (.mut q ds)) (h : CSs X (ρ.set i (.dat (.lst ds))) ss W) : CSs X ρ ss W := fun F O σ H E I r => h F O σ H E (I.freeze hi) r
theorem CE.cq (h : CE X ρ e d ρ1) {R : Res → Lo → Prop} (r : R (.ok d) ρ1) : CQ X ρ e R := fun F O σ H Q Wx I t q _ pins s J => h.2 F O σ H Q I (fun v H' I' rv => q d ρ1 v H' r h.1 I' rv) pins s J

/-! name = e -/
theorem css_asg (i : Nat) (B : Bdn X) (he : CE X ρ e d ρ1) (k : CSs X (ρ1.set i (.dat d)) rest W) (hi : X.N[i]? = some n := by rfl) (hx : Loc X.env.scope n := by first | exact Or.inl rfl | exact Or.inr rfl)
    (hs : swapsWith e (some (.Name n p)) pos.line X.env = pure false := by rfl) (hf : X.fn n = true ∨ X.env.scope.names.lookup n = some .local := by first | exact .inl rfl | exact .inr rfl) : CSs X ρ (.Assign [.Name n p] e pos :: rest) W :=
  css_of (ps_set B.nd hi hx pe_tw hs hf) fun F O σ H E I r => he.2 F O σ H _ I fun v H1 J rv => r.nx _ _ _ k (J.set rv)
theorem css_asgQ (i : Nat) (B : Bdn X) (he : CQ X ρ e fun r ρ' => match r with | .ok d => CSs X (ρ'.set i (.dat d)) rest W | .error er => W.er er ρ') (hi : X.N[i]? = some n := by rfl) (hx : Loc X.env.scope n := by first | exact Or.inl rfl | exact Or.inr rfl)
    (hs : swapsWith e (some (.Name n p)) pos.line X.env = pure false := by rfl) (hf : X.fn n = true ∨ X.env.scope.names.lookup n = some .local := by first | exact .inl rfl | exact .inr rfl) : CSs X ρ (.Assign [.Name n p] e pos :: rest) W :=
  css_of (ps_set B.nd hi hx pe_tw hs hf) fun F O σ H E I r => by
    obtain ⟨Wx, t, h⟩ := r.er
    exact he F O σ H _ Wx I t (fun d ρ' v H' k _ J rv => r.nx _ _ _ k (J.set rv)) fun er ρ' H' cls dd k J rv => h er ρ' σ H' cls dd k J rv
/-- .. a new list that will change -/
theorem SOk.own1 {vs : List V} (J : SOk X.K F O ρ σ H) (hp : H q = none) (r : Reps X.K (hid (UU O ρ) H) vs ds) (hi : i < ρ.length) : SOk X.K F O (ρ.set i (.mut q ds)) (σ.set i (some (.ref q))) (upd H q (.lst vs)) := by
  have nu := J.nU hp
  have J' := J.new (o := .lst vs) hp
  have r' : Reps X.K (hid (UU O ρ) (upd H q (.lst vs))) vs ds := r.mono (ex_new hp)
  have ow : ∀ a, owns (ρ.set i (.mut q ds)) a → owns ρ a ∨ a = q := fun a ⟨es, h⟩ => by
    rcases List.mem_or_eq_of_mem_set h with h | h
    · exact .inl ⟨es, h⟩
    · cases h
      exact .inr rfl
  have nF : F q = none := by
    cases z : F q with
    | none => rfl
    | some o =>
      rw [J.fr q o z] at hp
      cases hp
  have exh : Ex (hid (UU O ρ) H) (hid (UU O (ρ.set i (.mut q ds))) (upd H q (.lst vs))) := ex_hid fun a o _ n h => by
    have nq : a ≠ q := ne_of_none h hp
    refine ⟨fun z => ?_, by rw [upd_ne nq]; exact h⟩
    rcases z with z | z
    · exact n (.inl z)
    · rcases ow a z with z | z
      · exact n (.inr z)
      · exact nq z
  refine ⟨by rw [List.length_set, List.length_set]; exact J.len, fun k d' hk => ?_, fun k q' es hk => ?_, fun k l q' es es' hk hl => ?_, J'.fr, J.od, J'.tb, J.ft⟩
  · by_cases e : i = k
    · subst e
      rw [List.getElem?_set_self hi] at hk
      cases hk
    · rw [List.getElem?_set_ne e] at hk
      obtain ⟨u, h1, h2⟩ := J.dat k d' hk
      exact ⟨u, by rw [List.getElem?_set_ne e]; exact h1, h2.mono exh⟩
  · by_cases e : i = k
    · subst e
      rw [List.getElem?_set_self hi] at hk
      cases hk
      exact ⟨List.getElem?_set_self (by rw [J.len]; exact hi), nF, vs, upd_same, r.mono exh⟩
    · rw [List.getElem?_set_ne e] at hk
      obtain ⟨h1, h2, ws, h3, h4⟩ := J.mt k q' es hk
      exact ⟨by rw [List.getElem?_set_ne e]; exact h1, h2, ws, by rw [upd_ne (ne_of_none h3 hp)]; exact h3, h4.mono exh⟩
  · have hq : ∀ (k : Nat) (es : List D), ρ[k]? ≠ some (.mut q es) := fun k es h => by
      obtain ⟨_, _, ws, h3, _⟩ := J.mt k q es h
      rw [hp] at h3
      cases h3
    by_cases e : i = k
    · subst e
      by_cases e' : i = l
      · exact e'
      · rw [List.getElem?_set_self hi] at hk
        cases hk
        rw [List.getElem?_set_ne e'] at hl
        exact absurd hl (hq l es')
    · rw [List.getElem?_set_ne e] at hk
      by_cases e' : i = l
      · subst e'
        rw [List.getElem?_set_self hi] at hl
        cases hl
        exact absurd hk (hq k es)
      · rw [List.getElem?_set_ne e'] at hl
        exact J.nd k l q' es es' hk hl
theorem css_asgN (i : Nat) (B : Bdn X) (he : CN X ρ e ds ρ1) (k : ∀ q, CSs X (ρ1.set i (.mut q ds)) rest W) (hl : i < ρ1.length := by first | decide | simp) (hi : X.N[i]? = some n := by rfl) (hx : Loc X.env.scope n := by first | exact Or.inl rfl | exact Or.inr rfl)
    (hs : swapsWith e (some (.Name n p)) pos.line X.env = pure false := by rfl) (hf : X.fn n = true ∨ X.env.scope.names.lookup n = some .local := by first | exact .inl rfl | exact .inr rfl) : CSs X ρ (.Assign [.Name n p] e pos :: rest) W :=
  css_of (ps_set B.nd hi hx pe_tw hs hf) fun F O σ H E I r => he.2 F O σ H _ I fun q vs H1 J hp rv => r.nx _ _ _ (k q) (J.own1 hp rv hl)

/-! e as a statement, return, if, pass, break, continue -/
theorem css_expr (he : CE X ρ e d ρ1) (k : CSs X ρ1 rest W) (hs : swapsWith e none pos.line X.env = pure false := by rfl) : CSs X ρ (.Expr e pos :: rest) W := css_of (ps_expr pe_tw hs) fun F O σ H E I r => he.2 F O σ H _ I fun v H1 J _ => r.nx _ _ _ k J
theorem css_exprQ (he : CQ X ρ e fun r ρ' => match r with | .ok _ => CSs X ρ' rest W | .error er => W.er er ρ') (hs : swapsWith e none pos.line X.env = pure false := by rfl) : CSs X ρ (.Expr e pos :: rest) W := css_of (ps_expr pe_tw hs) fun F O σ H E I r => by
  obtain ⟨Wx, t, h⟩ := r.er
  exact he F O σ H _ Wx I t (fun d ρ' v H' k _ J rv => r.nx _ _ _ k J) fun er ρ' H' cls dd k J rv => h er ρ' σ H' cls dd k J rv
theorem css_ret (he : CE X ρ e d ρ1) (k : W.rt d ρ1) : CSs X ρ (.Return (some e) pos :: rest) W := css_of (ps_ret pe_tw) fun F O σ H E I r => he.2 F O σ H _ I fun v H1 J rv => r.rt d ρ1 σ H1 v k J rv
theorem css_retQ (he : CQ X ρ e fun r ρ' => match r with | .ok d => W.rt d ρ' | .error er => W.er er ρ') : CSs X ρ (.Return (some e) pos :: rest) W := css_of (ps_ret pe_tw) fun F O σ H E I r => by
  obtain ⟨Wx, t, h⟩ := r.er
  exact he F O σ H _ Wx I t (fun d ρ' v H' k _ J rv => r.rt d ρ' σ H' v k J rv) fun er ρ' H' cls dd k J rv => h er ρ' σ H' cls dd k J rv
theorem css_retN (k : W.rt .non ρ) : CSs X ρ (.Return none pos :: rest) W := css_of ps_retN fun F O σ H E I r => r.rt .non ρ σ H .non k I .non
theorem css_if {k : Bool} (hc : CT X ρ c k ρ1) (h1 : k = true → CSs X ρ1 A { W with nx := fun ρ' => CSs X ρ' rest W }) (h2 : k = false → CSs X ρ1 B { W with nx := fun ρ' => CSs X ρ' rest W }) : CSs X ρ (.If c A B pos :: rest) W :=
  css_of (ps_if pt_tw pss_tw pss_tw) fun F O σ H E I r => hc.2 F O σ H _ I fun H1 J => by
    cases k with
    | true => rw [if_pos rfl]; exact h1 rfl F O σ H1 E J r
    | false => rw [if_neg Bool.false_ne_true]; exact h2 rfl F O σ H1 E J r
theorem css_pass (k : CSs X ρ rest W) : CSs X ρ (.Pass pos :: rest) W := css_of ps_pass fun F O σ H E I r => r.nx _ _ _ k I
theorem css_break (k : W.bk ρ) : CSs X ρ (.Break pos :: rest) W := css_of ps_break fun F O σ H E I r => r.bk _ _ _ k I
theorem css_cont (k : W.ct ρ) : CSs X ρ (.Continue pos :: rest) W := css_of ps_continue fun F O σ H E I r => r.ct _ _ _ k I

/-! a, b = e (a tuple) -/
theorem css_tup {T : Tg} {tg : Expr} (B : Bd X) (he : CE X ρ e d ρ1) (hg : PG X tg (gOf X.K T)) (hb : Bind T d ρ1 ρ2) (k : CSs X ρ2 rest W) (hs : swapsWithSole [tg] e pos.line X.env = pure false := by rfl) (hw : swappedStores [tg] e X.env = pure none := by rfl)
    (h1 : (assignEach [tg] X.env).map (·.2) = [assign tg X.env] := by rfl) : CSs X ρ (.Assign [tg] e pos :: rest) W := css_of (ps_asg pe_tw hg hs hw h1) fun F O σ H E I r => he.2 F O σ H _ I fun v H1 J rv => hb.run J rv fun σ' L _ _ => r.nx _ _ _ k L
/-- a, b = x, y: two local names -/
theorem css_par (i j : Nat) {px py pt pt2 : Pos} {kt k2} (B : Bd X) (ha : CD X ρ [a, b] [x, y] ρ1) (k : CSs X ((ρ1.set i (.dat x)).set j (.dat y)) rest W) (hij : i ≠ j := by decide) (hi : X.N[i]? = some n := by rfl) (hj : X.N[j]? = some m := by rfl)
    (hx : X.env.scope.names.lookup n = some .local := by rfl) (hy : X.env.scope.names.lookup m = some .local := by rfl)
    (hw : swappedStores [.Tuple [.Name n px, .Name m py] kt pt] (.Tuple [a, b] k2 pt2) X.env = pure (some [n, m]) := by rfl)
    (hs : swapsWithSole [.Tuple [.Name n px, .Name m py] kt pt] (.Tuple [a, b] k2 pt2) pos.line X.env = pure false := by rfl) : CSs X ρ (.Assign [.Tuple [.Name n px, .Name m py] kt pt] (.Tuple [a, b] k2 pt2) pos :: rest) W :=
  css_of (ps_par B.calm B.nd hi hj hij hx hy pa_tw hw hs) fun F O σ H E I r => ha.2 F O σ H _ I fun vs H1 J rv => by
    obtain ⟨v, w, rfl, r1, r2⟩ := two_of rv
    refine ⟨v, w, rfl, r.nx _ _ _ k ((J.set r1).set (r2.mono (ex_hid fun a o _ nn h => ⟨fun z => nn (UU_set datNe z), h⟩)))⟩

/-! for -/
structure WK (K : PySem.W.Frag) (S T : Hp) (J : It) (ds : List D) : Prop where
  go : ∀ (i : Nat) H, i < ds.length → Ex S H → J.go i H
  stop : ∀ H, Ex S H → J.stop ds.length H
  yld : ∀ (i : Nat) H v H', i < ds.length → Ex S H → J.yld i H v H' → ∃ d, ds[i]? = some d ∧ ((H' = H ∧ Rep K T v d) ∨ ∃ p vs es, H p = none ∧ v = .ref p ∧ H' = upd H p (.tup vs) ∧ d = .tup es ∧ Reps K T vs es)
structure CI (X : Cx) (ρ : Lo) (tg iter : Expr) (ds : List D) (ρ' : Lo) : Prop where
  ex : ∃ wi, PI X tg iter wi ∧ owns ρ' = owns ρ ∧ ∀ F O σ H (R : It → Hp → Prop), SOk X.K F O ρ σ H → (∀ J H1, SOk X.K F O ρ' σ H1 → WK X.K (VL.sup ρ' H1) (hid (UU O ρ') H1) J ds → R J H1) → wi σ H R
/-- what the walk gives stands beside the state -/
theorem WK.got {J : It} {S T : Hp} {ρ' : Lo} {H' : Hp} {v : V} (w : WK X.K S T J ds) (hT : ∀ a o, T a = some o → S a = some o ∧ ¬ O a) (I : SOk X.K S O ρ' σ H) (hi : i < ds.length) (y : J.yld i H v H') : ∃ d, ds[i]? = some d ∧ SOk X.K S O ρ' σ H' ∧ Rep X.K (hid (UU O ρ') H') v d := by
  have sub : Ex T (hid (UU O ρ') H) := fun a o h => by
    obtain ⟨h1, h2⟩ := hT a o h
    have := I.ft a o h1
    exact hid_of (fun z => z.elim h2 fun z => by rw [I.own z] at h1; cases h1) (I.fr a o h1)
  obtain ⟨d, hd, h⟩ := w.yld i H v H' hi I.fr y
  refine ⟨d, hd, ?_⟩
  rcases h with ⟨rfl, r⟩ | ⟨p, vs, es, hp, rfl, rfl, rfl, r⟩
  · exact ⟨I, r.mono sub⟩
  · exact ⟨I.new hp, .tup (.of (I.newHid hp)) ((r.mono sub).mono (ex_new hp))⟩
theorem css_for {T : Tg} {tg iter : Expr} {body : List Stmt} (B : Bd X) (hi : CI X ρ tg iter ds ρ1) (hg : PG X tg (gOf X.K T)) (J : Nat → Lo → Prop) (h0 : J 0 ρ1)
    (hs : ∀ (i : Nat) d ρ, ds[i]? = some d → J i ρ → ∃ ρ', Bind T d ρ ρ' ∧ CSs X ρ' body { nx := J (i + 1), ct := J (i + 1), bk := fun ρ => CSs X ρ rest W, rt := W.rt, er := W.er })
    (hd : ∀ ρ, J ds.length ρ → CSs X ρ rest W) (hfs : ∀ x, foldedSetIterable iter X.env x = pure x := by intro _; rfl) : CSs X ρ (.For tg iter body [] pos :: rest) W := by
  obtain ⟨wi, hpi, how, hw⟩ := hi.ex
  refine css_of (ps_for B.ps B.calm hpi hg pss_tw hfs) fun F O σ H E I r => hw F O σ H _ I fun Jt H1 I1 wk => ?_
  have hT : ∀ a o, hid (UU O ρ1) H1 a = some o → VL.sup ρ1 H1 a = some o ∧ ¬ O a := fun a o h => by
    have := nt_hid h
    obtain ⟨n, h⟩ := of_hid h
    exact ⟨hid_of (fun z => n (.inr z)) h, fun z => n (.inl z)⟩
  have R' : Real X (VL.sup ρ1 H1) O { W with nx := fun ρ' => CSs X ρ' rest W } E := r.up I1.le_sup I1.od
  refine ⟨fun i m σ H => m = ds.length - i ∧ i ≤ ds.length ∧ ∃ ρi, J i ρi ∧ SOk X.K (VL.sup ρ1 H1) O ρi σ H, ⟨ds.length, by simp, Nat.zero_le _, ρ1, h0, I1.sup⟩, ?_⟩
  rintro i m σi Hi ⟨rfl, hle, ρi, hJ, Ii⟩
  by_cases hlt : i < ds.length
  · refine .inr ⟨wk.go i Hi hlt Ii.fr, fun σ' H' => ∃ ρi, J (i + 1) ρi ∧ SOk X.K (VL.sup ρ1 H1) O ρi σ' H', fun σ' H' h => ⟨ds.length - (i + 1), by omega, rfl, hlt, h⟩, fun v H' y => ?_⟩
    obtain ⟨d, hd', I2, rv⟩ := wk.got hT Ii hlt y
    obtain ⟨ρ', hb, hbody⟩ := hs i d ρi hd' hJ
    refine hb.run I2 rv fun σ' L _ _ => ?_
    refine hbody _ O σ' H' _ L ⟨fun ρ σ H h I => ⟨ρ, h, I⟩, R'.rt, R'.nx, fun ρ σ H h I => ⟨ρ, h, I⟩, R'.er⟩
  · have e : i = ds.length := by omega
    subst e
    exact .inl ⟨wk.stop Hi Ii.fr, R'.nx ρi σi Hi (hd ρi hJ) Ii⟩
/-! while -/
theorem css_while {body : List Stmt} (B : Bd X) (J : Nat → Lo → Prop) (m0 : Nat) (h0 : J m0 ρ)
    (hs : ∀ (m : Nat) ρ, J m ρ → ∃ k ρ', CT X ρ c k ρ' ∧ (k = true → CSs X ρ' body { nx := fun ρ => ∃ m', m' < m ∧ J m' ρ, ct := fun ρ => ∃ m', m' < m ∧ J m' ρ, bk := fun ρ => CSs X ρ rest W, rt := W.rt, er := W.er }) ∧ (k = false → CSs X ρ' rest W)) :
    CSs X ρ (.While c body [] pos :: rest) W := by
  refine css_of (ps_while B.ps pt_tw pss_tw) fun F O σ H E I r => ?_
  refine ⟨fun m σ H => ∃ ρi, J m ρi ∧ SOk X.K F O ρi σ H, ⟨m0, ρ, h0, I⟩, ?_⟩
  rintro m σi Hi ⟨ρi, hJ, Ii⟩
  obtain ⟨k, ρ', hc, h1, h2⟩ := hs m ρi hJ
  refine hc.2 F O σi Hi _ Ii fun H1 L => ?_
  cases k with
  | true =>
    rw [if_pos rfl]
    refine ⟨fun σ' H' => ∃ m', m' < m ∧ ∃ ρi, J m' ρi ∧ SOk X.K F O ρi σ' H', fun σ' H' ⟨m', hm, h⟩ => ⟨m', hm, h⟩, ?_⟩
    exact h1 rfl F O σi H1 _ L ⟨fun ρ σ H ⟨m', hm, h⟩ I => ⟨m', hm, ρ, h, I⟩, r.rt, r.nx, fun ρ σ H ⟨m', hm, h⟩ I => ⟨m', hm, ρ, h, I⟩, r.er⟩
  | false =>
    rw [if_neg Bool.false_ne_true]
    exact r.nx ρ' σi H1 (h2 rfl) L
end
end VL
end

section
set_option Elab.async false
set_option linter.all false
set_option maxRecDepth 100000
set_option maxHeartbeats 4000000
namespace VL
open PySem PySem.Spec PyProof.Rows L2

/-! ### what a for or a comprehension walks -/
section
variable {X : Cx} {e a b c tg : Expr} {es : List Expr} {ρ ρ1 ρ2 ρ3 ρ' : Lo} {x y d : D} {pos p p2 : Pos} {F F' : Hp} {O : Addr → Prop} {σ : L2.St} {H H' S T : Hp} {i j : Nat} {n m : Str} {ds es' : List D} {q : Addr}
theorem WK.of {J : It} {G : Hp → Prop} {Y : Nat → Hp → V → Hp → Prop} {k : Nat} (w : Walk J k G Y) (hk : k = ds.length) (hG : ∀ H, Ex S H → G H)
    (hY : ∀ (i : Nat) H v H', i < k → Ex S H → Y i H v H' → ∃ d, ds[i]? = some d ∧ ((H' = H ∧ Rep X.K T v d) ∨ ∃ p vs es, H p = none ∧ v = .ref p ∧ H' = upd H p (.tup vs) ∧ d = .tup es ∧ Reps X.K T vs es)) : WK X.K S T J ds := by
  subst hk
  exact ⟨fun i H hi h => w.goes i H hi (hG H h), fun H h => w.stops H (hG H h), fun i H v H' hi h y => hY i H v H' hi h (w.yields i H v H' hi (hG H h) y)⟩
theorem T_S (ρ1 : Lo) (H1 : Hp) : Ex (hid (UU O ρ1) H1) (VL.sup ρ1 H1) := fun a o h => by
  have := nt_hid h
  obtain ⟨n, h⟩ := of_hid h
  exact hid_of (fun z => n (.inr z)) h
theorem wk_list {vs : List V} (h1 : hid (UU O ρ1) H q = some (.lst vs)) (rs : Reps X.K (hid (UU O ρ1) H) vs ds) : WK X.K (VL.sup ρ1 H) (hid (UU O ρ1) H) (Itl X.K q) ds :=
  WK.of (walk_list (K := X.K) (a := q) (xs := vs)) rs.length (fun H' h => .of (h _ _ (T_S ρ1 H _ _ h1))) fun i H' v H'' hi h ⟨e1, e2⟩ => by
    obtain ⟨d, h3, h4⟩ := rs.get' e2
    exact ⟨d, h3, .inl ⟨e1, h4⟩⟩
theorem ci_list (ha : CE X ρ e (.lst ds) ρ1) : CI X ρ tg e ds ρ1 := ⟨_, pi_list pe_tw, ha.1, fun F O σ H R I k => ha.2 F O σ H _ I fun v H1 J r => by
  cases r with
  | lst h1 rs => exact ⟨_, rfl, ⟨_, .of (hid_ex _ _ h1)⟩, k _ H1 J (wk_list h1 rs)⟩⟩
theorem ci_tup (ha : CE X ρ e (.tup ds) ρ1) : CI X ρ tg e ds ρ1 := ⟨_, pi_tup pe_tw, ha.1, fun F O σ H R I k => ha.2 F O σ H _ I fun v H1 J r => by
  cases r with
  | @tup a vs _ h1 rs => exact ⟨_, rfl, ⟨_, hid_ex.t h1⟩, k _ H1 J (WK.of (walk_tup (K := X.K) (a := a) (xs := vs)) rs.length (fun H' h => h.t ((T_S ρ1 H1).t h1)) fun i H' v H'' hi h ⟨e1, e2⟩ => by
      obtain ⟨d, h3, h4⟩ := rs.get' e2
      exact ⟨d, h3, .inl ⟨e1, h4⟩⟩)⟩⟩
def rangeD (lo : Int) (n : Nat) : List D := (List.range n).map fun i => .int (lo + (i : Nat))
theorem rangeD_len {lo : Int} {n : Nat} : (rangeD lo n).length = n := by unfold rangeD; rw [List.length_map, List.length_range]
theorem rangeD_get {lo : Int} {n i : Nat} (h : i < n) : (rangeD lo n)[i]? = some (.int (lo + (i : Nat))) := by
  unfold rangeD
  rw [List.getElem?_map, List.getElem?_range h]
  rfl
theorem wk_range {lo : Int} {n : Nat} : WK X.K S T (Itr lo n) (rangeD lo n) :=
  WK.of (walk_range (lo := lo) (n := n)) rangeD_len.symm (fun _ _ => trivial) fun i H' v H'' hi h ⟨e1, e2⟩ => ⟨_, rangeD_get hi, .inl ⟨e1, by rw [e2]; exact .int _⟩⟩
theorem ci_range1 {j : Int} (hm : X.mg "range" = none) (ha : CE X ρ a (.int j) ρ1) (hj : -(2 ^ 62) ≤ j ∧ j < 2 ^ 62) (hg : Gl X "range" := by rfl) (hs : starEach [a] X.env = [(false, eval a X.env)] := by rfl)
    (he : starEach [a] X.env = (false, eval a X.env) :: starEach [] X.env := by rfl) : CI X ρ tg (.Call (.Name "range" p) [a] [] pos) (rangeD 0 j.toNat) ρ1 :=
  ⟨_, pi_range1 hg hm pa_tw hs, ha.1, fun F O σ H R I k => (d_cons ha d_nil he).2 F O σ H _ I fun vs H1 J r => by
    obtain ⟨v, rfl, ru⟩ := one_of r
    cases ru
    exact ⟨j, rfl, hj.1, hj.2, k _ H1 J wk_range⟩⟩
theorem ci_range2 {i j : Int} (hm : X.mg "range" = none) (ha : CE X ρ a (.int i) ρ1) (hb : CE X ρ1 b (.int j) ρ2) (hj : -(2 ^ 62) ≤ i ∧ i < 2 ^ 62 ∧ -(2 ^ 62) ≤ j ∧ j < 2 ^ 62) (hg : Gl X "range" := by rfl)
    (hs : starEach [a, b] X.env = [(false, eval a X.env), (false, eval b X.env)] := by rfl) (hs2 : starEach [b] X.env = [(false, eval b X.env)] := by rfl)
    (he : starEach [a, b] X.env = (false, eval a X.env) :: starEach [b] X.env := by rfl) (he2 : starEach [b] X.env = (false, eval b X.env) :: starEach [] X.env := by rfl) : CI X ρ tg (.Call (.Name "range" p) [a, b] [] pos) (rangeD i (j - i).toNat) ρ2 :=
  ⟨_, pi_range2 hg hm pa_tw hs hs2, hb.1.trans ha.1, fun F O σ H R I k => (d_cons ha (d_cons hb d_nil he2) he).2 F O σ H _ I fun vs H1 J r => by
    obtain ⟨v, w, rfl, ru, rw'⟩ := two_of r
    cases ru
    cases rw'
    exact ⟨i, j, rfl, hj, k _ H1 J wk_range⟩⟩
def rangeDn (lo : Int) (n : Nat) : List D := (List.range n).map fun i => .int (lo - (i : Nat))
theorem rangeDn_len {lo : Int} {n : Nat} : (rangeDn lo n).length = n := by unfold rangeDn; rw [List.length_map, List.length_range]
theorem rangeDn_get {lo : Int} {n i : Nat} (h : i < n) : (rangeDn lo n)[i]? = some (.int (lo - (i : Nat))) := by
  unfold rangeDn
  rw [List.getElem?_map, List.getElem?_range h]
  rfl
theorem three_of {K : PySem.W.Frag} {H : Hp} {z : D} {vs : List V} (r : Reps K H vs [x, y, z]) : ∃ v w u, vs = [v, w, u] ∧ Rep K H v x ∧ Rep K H w y ∧ Rep K H u z := by
  cases r with
  | cons h t =>
    obtain ⟨w, u, rfl, h2, h3⟩ := two_of t
    exact ⟨_, w, u, rfl, h, h2, h3⟩
/-- range(i, j, -1) -/
theorem ci_down {i j : Int} (hm : X.mg "range" = none) (ha : CE X ρ a (.int i) ρ1) (hb : CE X ρ1 b (.int j) ρ2) (hc : CE X ρ2 c (.int (-1)) ρ3) (hj : -(2 ^ 62) ≤ i ∧ i < 2 ^ 62 ∧ -(2 ^ 62) ≤ j ∧ j < 2 ^ 62) (hg : Gl X "range" := by rfl)
    (hs : starEach [a, b, c] X.env = (false, eval a X.env) :: starEach [b, c] X.env := by rfl) (hpl : (backTo pos (starEach [b, c] X.env)).any (·.1) = false := by rfl)
    (he2 : starEach [b, c] X.env = (false, eval b X.env) :: starEach [c] X.env := by rfl) (he3 : starEach [c] X.env = (false, eval c X.env) :: starEach [] X.env := by rfl) :
    CI X ρ tg (.Call (.Name "range" p) [a, b, c] [] pos) (rangeDn i (i - j).toNat) ρ3 :=
  ⟨_, pi_range3 hg hm pa_tw hs hpl, hc.1.trans (hb.1.trans ha.1), fun F O σ H R I k => (d_cons ha (d_cons hb (d_cons hc d_nil he3) he2) hs).2 F O σ H _ I fun vs H1 J r => by
    obtain ⟨v, w, u, rfl, ru, rw', ru3⟩ := three_of r
    cases ru
    cases rw'
    cases ru3
    refine ⟨i, j, -1, (i - j).toNat, rfl, RgC.neg hj.1 hj.2.1 hj.2.2.1 hj.2.2.2, k _ H1 J ?_⟩
    exact WK.of (walk_rangeC (lo := i) (c := -1) (n := (i - j).toNat)) rangeDn_len.symm (fun _ _ => trivial) fun t H' v H'' hi h ⟨e1, e2⟩ => ⟨_, rangeDn_get hi, .inl ⟨e1, by
      have e3 : i + ((t : Nat) : Int) * -1 = i - (t : Nat) := by omega
      rw [e2]
      show Rep _ _ (V.int (i + ((t : Nat) : Int) * -1)) _
      rw [e3]
      exact .int _⟩⟩⟩
/-- zip of two lists, of two tuples -/
def zipD (xs ys : List D) : List D := List.zipWith (fun x y => .tup [x, y]) xs ys
theorem zipD_get {xs ys : List D} {i : Nat} (h1 : xs[i]? = some x) (h2 : ys[i]? = some y) : (zipD xs ys)[i]? = some (.tup [x, y]) := by
  unfold zipD
  rw [List.getElem?_zipWith, h1, h2]
theorem ci_zipL {xs ys : List D} {elts : List Expr} {kk : Nat} {tpos : Pos} (hm : X.mg "zip" = none) (ha : CE X ρ a (.lst xs) ρ1) (hb : CE X ρ1 b (.lst ys) ρ2) (hg : Gl X "zip" := by rfl)
    (hs : starEach [a, b] X.env = (false, eval a X.env) :: starEach [b] X.env := by rfl) (hpl : (backTo pos (starEach [b] X.env)).any (·.1) = false := by rfl)
    (he2 : starEach [b] X.env = (false, eval b X.env) :: starEach [] X.env := by rfl) : CI X ρ (.Tuple elts kk tpos) (.Call (.Name "zip" p) [a, b] [] pos) (zipD xs ys) ρ2 :=
  ⟨_, RZ.pi_zipA hg hm pa_tw hs hpl, hb.1.trans ha.1, fun F O σ H R I k => (d_cons ha (d_cons hb d_nil he2) hs).2 F O σ H _ I fun vs H1 J r => by
    obtain ⟨v, w, rfl, ru, rw'⟩ := two_of r
    cases ru with
    | @lst a1 vs1 _ h1 r1 =>
      cases rw' with
      | @lst a2 vs2 _ h2 r2 =>
        refine ⟨a1, a2, vs1, vs2, rfl, .inl ⟨.of (hid_ex _ _ h1), .of (hid_ex _ _ h2), k _ H1 J ?_⟩⟩
        refine WK.of (walk_zip (K := X.K) (a := a1) (b := a2) (xs := vs1) (ys := vs2) rfl) (by unfold zipD; rw [List.length_zipWith, r1.length, r2.length]) (fun H' h => ⟨.of (h _ _ (T_S ρ2 H1 _ _ h1)), .of (h _ _ (T_S ρ2 H1 _ _ h2))⟩) fun i H' v H'' hi h y => ?_
        obtain ⟨t, u1, u2, rfl, ht, rfl, e1, e2⟩ := y
        obtain ⟨d1, q1, q2⟩ := r1.get' e1
        obtain ⟨d2, q3, q4⟩ := r2.get' e2
        exact ⟨_, zipD_get q1 q3, .inr ⟨t, _, _, ht, rfl, rfl, rfl, .cons q2 (.cons q4 .nil)⟩⟩⟩
/-- enumerate of a list -/
def enumD (xs : List D) : List D := (List.range xs.length).map fun i => .tup [.int (i : Nat), xs.getD i .non]
theorem enumD_len {xs : List D} : (enumD xs).length = xs.length := by unfold enumD; rw [List.length_map, List.length_range]
theorem enumD_get {xs : List D} {i : Nat} (h : xs[i]? = some x) : (enumD xs)[i]? = some (.tup [.int (i : Nat), x]) := by
  have hi : i < xs.length := (List.getElem?_eq_some_iff.mp h).1
  unfold enumD
  rw [List.getElem?_map, List.getElem?_range hi]
  show some (D.tup [.int (i : Nat), xs.getD i .non]) = _
  rw [List.getD_eq_getElem?_getD, h]
  rfl
theorem ci_enumL {xs : List D} {elts : List Expr} {kk : Nat} {tpos : Pos} (hm : X.mg "enumerate" = none) (ha : CE X ρ a (.lst xs) ρ1) (hg : Gl X "enumerate" := by rfl)
    (hs : starEach [a] X.env = [(false, eval a X.env)] := by rfl) (he : starEach [a] X.env = (false, eval a X.env) :: starEach [] X.env := by rfl) : CI X ρ (.Tuple elts kk tpos) (.Call (.Name "enumerate" p) [a] [] pos) (enumD xs) ρ1 :=
  ⟨_, pi_enum hg hm pa_tw hs, ha.1, fun F O σ H R I k => (d_cons ha d_nil he).2 F O σ H _ I fun vs H1 J r => by
    obtain ⟨v, rfl, ru⟩ := one_of r
    cases ru with
    | @lst a1 vs1 _ h1 r1 =>
      refine ⟨a1, vs1, rfl, .of (hid_ex _ _ h1), k _ H1 J ?_⟩
      refine WK.of (walk_enum (K := X.K) (a := a1) (xs := vs1)) (by rw [enumD_len, r1.length]) (fun H' h => .of (h _ _ (T_S ρ1 H1 _ _ h1))) fun i H' v H'' hi h y => ?_
      obtain ⟨t, u1, u2, rfl, ht, rfl, e1, e2⟩ := y
      cases e1
      obtain ⟨d2, q3, q4⟩ := r1.get' e2
      exact ⟨_, enumD_get q3, .inr ⟨t, _, _, ht, rfl, rfl, rfl, .cons (.int _) (.cons q4 .nil)⟩⟩⟩

/-! ### comprehensions -/
/-- the slots of vs empty -/
def wipeL (ρ : Lo) : List Nat → Lo
  | [] => ρ
  | v :: vs => (wipeL ρ vs).set v .un
theorem wipeL_len : ∀ {vs : List Nat}, (wipeL ρ vs).length = ρ.length
  | [] => rfl
  | v :: vs => by unfold wipeL; rw [List.length_set, wipeL_len]
theorem wipeL_get {k : Nat} {s : Sl} : ∀ {vs : List Nat}, (wipeL ρ vs)[k]? = some s → (s = .un ∧ k ∈ vs) ∨ (k ∉ vs ∧ ρ[k]? = some s)
  | [], h => .inr ⟨by simp, h⟩
  | v :: vs, h => by
    unfold wipeL at h
    by_cases e : v = k
    · subst e
      have hl : v < (wipeL ρ vs).length := by
        have := (List.getElem?_eq_some_iff.mp h).1
        rw [List.length_set] at this
        exact this
      rw [List.getElem?_set_self hl] at h
      cases h
      exact .inl ⟨rfl, List.mem_cons_self⟩
    · rw [List.getElem?_set_ne e] at h
      rcases wipeL_get h with ⟨h1, h2⟩ | ⟨h1, h2⟩
      · exact .inl ⟨h1, List.mem_cons_of_mem _ h2⟩
      · exact .inr ⟨fun z => (List.mem_cons.mp z).elim (fun z => e z.symm) h1, h2⟩
theorem wipe_get {σ : L2.St} {k : Nat} : ∀ {vs : List Nat}, k ∉ vs → (wipe σ vs)[k]? = σ[k]?
  | [], _ => rfl
  | v :: vs, h => by
    unfold wipe
    rw [List.getElem?_set_ne fun e => h (by rw [e]; exact List.mem_cons_self)]
    exact wipe_get fun z => h (List.mem_cons_of_mem _ z)
theorem wipe_in {σ : L2.St} {k : Nat} : ∀ {vs : List Nat}, k ∈ vs → k < σ.length → (wipe σ vs)[k]? = some none
  | v :: vs, h, hl => by
    unfold wipe
    by_cases e : v = k
    · subst e
      exact List.getElem?_set_self (by rw [L2.wipe_length]; exact hl)
    · rw [List.getElem?_set_ne e]
      exact wipe_in ((List.mem_cons.mp h).resolve_left fun z => e z.symm) hl
theorem wipe_eq {σ σ' : L2.St} {vs : List Nat} (hl : σ'.length = σ.length) (h : ∀ k, k ∉ vs → σ'[k]? = σ[k]?) : wipe σ' vs = wipe σ vs := by
  apply List.ext_getElem?
  intro k
  by_cases hk : k ∈ vs
  · by_cases hlt : k < σ.length
    · rw [wipe_in hk hlt, wipe_in hk (by rw [hl]; exact hlt)]
    · rw [List.getElem?_eq_none (by rw [L2.wipe_length]; omega), List.getElem?_eq_none (by rw [L2.wipe_length]; omega)]
  · rw [wipe_get hk, wipe_get hk]
    exact h k hk
/-- no own list in the slots of vs -/
def noMut (ρ : Lo) (vs : List Nat) : Prop := ∀ k p ds, k ∈ vs → ρ[k]? ≠ some (.mut p ds)
theorem SOk.wipe {vs : List Nat} (I : SOk X.K F O ρ σ H) (hn : noMut ρ vs) : SOk X.K F O (wipeL ρ vs) (wipe σ vs) H := by
  have sub : ∀ a, owns (wipeL ρ vs) a → owns ρ a := fun a ⟨es, h⟩ => by
    obtain ⟨k, hk⟩ := List.getElem?_of_mem h
    rcases wipeL_get hk with ⟨z, _⟩ | ⟨_, h2⟩
    · cases z
    · exact ⟨es, List.mem_of_getElem? h2⟩
  have ex : Ex (hid (UU O ρ) H) (hid (UU O (wipeL ρ vs)) H) := ex_hid fun a o _ n h => ⟨fun z => n (z.elim .inl fun z => .inr (sub a z)), h⟩
  refine ⟨by rw [L2.wipe_length, wipeL_len]; exact I.len, fun k d h => ?_, fun k p es h => ?_, fun k l p es es' h h' => ?_, I.fr, I.od, I.tb, I.ft⟩
  · rcases wipeL_get h with ⟨z, _⟩ | ⟨h1, h2⟩
    · cases z
    · obtain ⟨v, e1, e2⟩ := I.dat k d h2
      exact ⟨v, by rw [wipe_get h1]; exact e1, e2.mono ex⟩
  · rcases wipeL_get h with ⟨z, _⟩ | ⟨h1, h2⟩
    · cases z
    · obtain ⟨e1, e2, vs', e3, e4⟩ := I.mt k p es h2
      exact ⟨by rw [wipe_get h1]; exact e1, e2, vs', e3, e4.mono ex⟩
  · rcases wipeL_get h with ⟨z, _⟩ | ⟨_, h2⟩
    · cases z
    · rcases wipeL_get h' with ⟨z, _⟩ | ⟨_, h3⟩
      · cases z
      · exact I.nd k l p es es' h2 h3
/-- an object that is hidden may change -/
theorem SOk.under {vs ws : List V} (I : SOk X.K F O ρ σ H) (hq : O q) (hl : H q = some (.lst ws)) : SOk X.K (upd F q (.lst vs)) O ρ σ (upd H q (.lst vs)) := by
  have eh : hid (UU O ρ) (upd H q (.lst vs)) = hid (UU O ρ) H := by
    funext a
    unfold hid
    by_cases h : UU O ρ a
    · rw [if_pos (.inl h), if_pos (.inl h)]
    · have e : upd H q (.lst vs) a = H a := upd_ne fun e => h (by rw [e]; exact .inl hq)
      rw [e]
  refine ⟨I.len, fun k d h => ?_, fun k p es h => ?_, I.nd, fun a u h => ?_, fun a h => ?_, I.tb.at hl fun a ha => upd_ne ha, fun a u h => ?_⟩
  · rw [eh]; exact I.dat k d h
  · obtain ⟨e1, e2, vs, e3, e4⟩ := I.mt k p es h
    have np : p ≠ q := fun e => I.nO (a := p) ⟨es, List.mem_of_getElem? h⟩ (by rw [e]; exact hq)
    refine ⟨e1, by rw [upd_ne np]; exact e2, vs, by rw [upd_ne np]; exact e3, ?_⟩
    rw [eh]; exact e4
  · by_cases e : a = q
    · subst e
      rw [upd_same] at h ⊢
      exact h
    · rw [upd_ne e] at h ⊢
      exact I.fr a u h
  · by_cases e : a = q
    · subst e
      exact ⟨_, upd_same⟩
    · obtain ⟨u, e1⟩ := I.od a h
      exact ⟨u, by rw [upd_ne e]; exact e1⟩
  · by_cases e : a = q
    · subst e
      rw [upd_same] at h
      cases h
      exact inferInstance
    · rw [upd_ne e] at h
      exact I.ft a u h
/-- the same names with the same data; own lists may have turned -/
def sk : Sl → Sl
  | .mut p _ => .mut p []
  | s => s
def Like (ρ ρ' : Lo) : Prop := ρ'.map sk = ρ.map sk
theorem Like.refl : Like ρ ρ := rfl
theorem Like.symm (l : Like ρ ρ') : Like ρ' ρ := Eq.symm l
theorem Like.trans (l : Like ρ ρ') (k : Like ρ' ρ2) : Like ρ ρ2 := Eq.trans k l
theorem Like.len (l : Like ρ ρ') : ρ'.length = ρ.length := by
  have h := congrArg List.length l
  rw [List.length_map, List.length_map] at h
  exact h
theorem Like.at (l : Like ρ ρ') (k : Nat) : (ρ'[k]?).map sk = (ρ[k]?).map sk := by
  have h := congrArg (·[k]?) l
  simp only [List.getElem?_map] at h
  exact h
theorem Like.dat (l : Like ρ ρ') (k : Nat) (d : D) (h : ρ'[k]? = some (.dat d)) : ρ[k]? = some (.dat d) := by
  have e := l.at k
  rw [h] at e
  cases q : ρ[k]? with
  | none => rw [q] at e; cases e
  | some s =>
    rw [q] at e
    cases s with
    | un => cases e
    | dat d2 => cases e; rfl
    | «mut» p ds => cases e
theorem Like.mt (l : Like ρ ρ') (k : Nat) (p : Addr) (ds : List D) (h : ρ'[k]? = some (.mut p ds)) : ∃ ds', ρ[k]? = some (.mut p ds') := by
  have e := l.at k
  rw [h] at e
  cases q : ρ[k]? with
  | none => rw [q] at e; cases e
  | some s =>
    rw [q] at e
    cases s with
    | un => cases e
    | dat d2 => cases e
    | «mut» p ds => cases e; exact ⟨_, rfl⟩
theorem Like.tm (l : Like ρ ρ') (k : Nat) (p : Addr) (ds : List D) (h : ρ[k]? = some (.mut p ds)) : ∃ ds', ρ'[k]? = some (.mut p ds') := l.symm.mt k p ds h
theorem Like.owns (l : Like ρ ρ') : owns ρ' = owns ρ := funext fun a => propext ⟨fun ⟨es, h⟩ => by
  obtain ⟨k, hk⟩ := List.getElem?_of_mem h
  obtain ⟨es', h'⟩ := l.mt k a es hk
  exact ⟨es', List.mem_of_getElem? h'⟩, fun ⟨es, h⟩ => by
  obtain ⟨k, hk⟩ := List.getElem?_of_mem h
  obtain ⟨es', h'⟩ := l.tm k a es hk
  exact ⟨es', List.mem_of_getElem? h'⟩⟩
theorem Like.noMut {vs : List Nat} (l : Like ρ ρ') (h : noMut ρ vs) : noMut ρ' vs := fun k p ds hk e => by
  obtain ⟨es, e'⟩ := l.mt k p ds e
  exact h k p es hk e'
/-- behind a turn: the def's slots with the own lists as they stand now -/
theorem SOk.back {σ2 : L2.St} {H1 H4 : Hp} (I1 : SOk X.K F O ρ σ H1) (J : SOk X.K F' O ρ2 σ2 H4) (e : Ex (hid (UU O ρ) H1) H4) (l : Like ρ ρ') (hm : ∀ (k : Nat) p es, ρ'[k]? = some (.mut p es) → ρ2[k]? = some (.mut p es)) (hf : Ex F H4) : SOk X.K F O ρ' σ H4 := by
  have sub : ∀ a, UU O ρ' a → UU O ρ2 a := fun a z => z.elim .inl fun ⟨es, h⟩ => .inr (by
    obtain ⟨k, hk⟩ := List.getElem?_of_mem h
    exact ⟨es, List.mem_of_getElem? (hm k a es hk)⟩)
  refine ⟨by rw [l.len]; exact I1.len, fun k d h => ?_, fun k p es h => ?_, fun k k' p es es' h h' => ?_, hf, I1.od, J.tb, I1.ft⟩
  · obtain ⟨v, h1, h2⟩ := I1.dat k d (l.dat k d h)
    refine ⟨v, h1, h2.mono fun a o ha => ?_⟩
    have := nt_hid ha
    obtain ⟨n, _⟩ := of_hid ha
    refine hid_of (fun z => n ?_) (e a o ha)
    unfold UU at z ⊢
    rw [← l.owns]
    exact z
  · obtain ⟨es0, h0⟩ := l.mt k p es h
    obtain ⟨e1, e2, _⟩ := I1.mt k p es0 h0
    obtain ⟨_, _, vs, e3, e4⟩ := J.mt k p es (hm k p es h)
    exact ⟨e1, e2, vs, e3, e4.mono (ex_hid fun a o _ n ha => ⟨fun z => n (sub a z), ha⟩)⟩
  · obtain ⟨es0, h0⟩ := l.mt k p es h
    obtain ⟨es1, h1⟩ := l.mt k' p es' h'
    exact I1.nd k k' p es0 es1 h0 h1
end
end VL
end

section
set_option Elab.async false
set_option linter.all false
set_option maxRecDepth 100000
set_option maxHeartbeats 4000000
namespace VL
open PySem PySem.Spec PyProof.Rows L2
section
variable {X : Cx} {e a b c tg elt iter : Expr} {es ifs : List Expr} {ρ ρ1 ρ2 ρ3 ρ' : Lo} {x y d : D} {pos p p2 : Pos} {F F' : Hp} {O : Addr → Prop} {σ : L2.St} {H H' S T : Hp} {i j : Nat} {n m : Str} {ds es' : List D} {q : Addr} {scope : Scope} {own : List (Str × Nat)}
/-- an expression of a comprehension's block, in any such block -/
def twB (X : Cx) (scope : Scope) (e : Expr) : TE := fun σ H Q => ∀ (s : Shared) (H' : Hp) (C : Addr) (cl : List (Str × Addr)) (fp : List Addr), tw (X.blk s H' scope (compEnvC scope cl C X.env) fp) e σ H Q
def twTB (X : Cx) (scope : Scope) (e : Expr) : TT := fun σ H Q => ∀ (s : Shared) (H' : Hp) (C : Addr) (cl : List (Str × Addr)) (fp : List Addr), twT (X.blk s H' scope (compEnvC scope cl C X.env) fp) e σ H Q
theorem pe_twB {s : Shared} {H' : Hp} {C : Addr} {cl : List (Str × Addr)} {fp : List Addr} : PE (X.blk s H' scope (compEnvC scope cl C X.env) fp) e (twB X scope e) := ⟨fun pins s1 _ _ _ I h => h s H' C cl fp pins s1 I⟩
theorem pt_twB {s : Shared} {H' : Hp} {C : Addr} {cl : List (Str × Addr)} {fp : List Addr} : PT (X.blk s H' scope (compEnvC scope cl C X.env) fp) e (twTB X scope e) := ⟨fun pins s1 _ _ _ I h => h s H' C cl fp pins s1 I⟩
/-- in every block of this scope -/
abbrev InB (X : Cx) (scope : Scope) (P : Cx → Prop) : Prop := ∀ (s : Shared) (H' : Hp) (C : Addr) (cl : List (Str × Addr)) (fp : List Addr), P (X.blk s H' scope (compEnvC scope cl C X.env) fp)
theorem ev_twB (h : InB X scope fun Y => CE Y ρ e d ρ1) (ho : owns ρ1 = owns ρ) : EV X.K (twB X scope e) ρ d ρ1 := ⟨ho, fun F O σ H Q I q s H' C cl fp => (h s H' C cl fp).2 F O σ H Q I q⟩
theorem et_twB {k : Bool} (h : InB X scope fun Y => CT Y ρ e k ρ1) (ho : owns ρ1 = owns ρ) : ET X.K (twTB X scope e) ρ k ρ1 := ⟨ho, fun F O σ H Q I q s H' C cl fp => (h s H' C cl fp).2 F O σ H Q I q⟩
def delH (H : Hp) (q : Addr) : Hp := fun b => if b = q then none else H b
theorem delH_same : delH H q q = none := if_pos rfl
theorem delH_ne {b : Addr} (h : b ≠ q) : delH H q b = H b := if_neg h
theorem upd_delH {o : HO} (h : H q = some o) : upd (delH H q) q o = H := by
  funext b
  by_cases e : b = q
  · subst e; rw [upd_same, h]
  · rw [upd_ne e, delH_ne e]
def orA (O : Addr → Prop) (q : Addr) : Addr → Prop := fun a => O a ∨ a = q
/-- a new hidden object -/
theorem SOk.orNew {o : HO} [t : NT o] (I : SOk X.K F O ρ σ H) (hq : H q = none) : SOk X.K (upd F q o) (orA O q) ρ σ (upd H q o) := by
  have nu := I.nU hq
  have ex : Ex (hid (UU O ρ) H) (hid (UU (orA O q) ρ) (upd H q o)) := ex_hid fun a u _ n h => by
    have nq : a ≠ q := ne_of_none h hq
    exact ⟨fun z => z.elim (fun z => z.elim (fun z => n (.inl z)) nq) fun z => n (.inr z), by rw [upd_ne nq]; exact h⟩
  refine ⟨I.len, fun k d h => ?_, fun k p es h => ?_, I.nd, fun a u h => ?_, fun a h => ?_, I.tb.ex fun a u e => by rw [upd_ne (ne_of_none e hq)]; exact e, fun a u h => ?_⟩
  · obtain ⟨v, e1, e2⟩ := I.dat k d h
    exact ⟨v, e1, e2.mono ex⟩
  · obtain ⟨e1, e2, vs, e3, e4⟩ := I.mt k p es h
    have np : p ≠ q := ne_of_none e3 hq
    exact ⟨e1, by rw [upd_ne np]; exact e2, vs, by rw [upd_ne np]; exact e3, e4.mono ex⟩
  · by_cases e : a = q
    · subst e
      rw [upd_same] at h ⊢
      exact h
    · rw [upd_ne e] at h ⊢
      exact I.fr a u h
  · rcases h with h | h
    · obtain ⟨u, e1⟩ := I.od a h
      by_cases e : a = q
      · subst e; exact ⟨o, upd_same⟩
      · exact ⟨u, by rw [upd_ne e]; exact e1⟩
    · subst h; exact ⟨o, upd_same⟩
  · by_cases e : a = q
    · subst e
      rw [upd_same] at h
      cases h
      exact t
    · rw [upd_ne e] at h
      exact I.ft a u h
/-- .. taken away -/
theorem SOk.orDel {ws : List V} (I : SOk X.K (upd F q (.lst ws)) (orA O q) ρ σ H) (hF : F q = none) (od : ∀ a, O a → ∃ o, F a = some o) : SOk X.K F O ρ σ (delH H q) ∧ ∀ {vs : List V} {ds : List D}, Reps X.K (hid (UU (orA O q) ρ) H) vs ds → Reps X.K (hid (UU O ρ) (delH H q)) vs ds := by
  have ex : Ex (hid (UU (orA O q) ρ) H) (hid (UU O ρ) (delH H q)) := ex_hid fun a u _ n h => by
    have nq : a ≠ q := fun e => n (.inl (.inr e))
    exact ⟨fun z => n (z.elim (fun z => .inl (.inl z)) .inr), by rw [delH_ne nq]; exact h⟩
  refine ⟨⟨I.len, fun k d h => ?_, fun k p es h => ?_, I.nd, fun a u h => ?_, od, I.tb.at (I.fr q _ upd_same) fun a ha => delH_ne ha, fun a u h => I.ft a u (by rw [upd_ne (ne_of_none h hF)]; exact h)⟩, fun r => r.mono ex⟩
  · obtain ⟨v, e1, e2⟩ := I.dat k d h
    exact ⟨v, e1, e2.mono ex⟩
  · obtain ⟨e1, e2, vs, e3, e4⟩ := I.mt k p es h
    have np : p ≠ q := fun e => by
      rw [e, upd_same] at e2
      cases e2
    exact ⟨e1, by rw [upd_ne np] at e2; exact e2, vs, by rw [delH_ne np]; exact e3, e4.mono ex⟩
  · have na : a ≠ q := ne_of_none h hF
    rw [delH_ne na]
    exact I.fr a u (by rw [upd_ne na]; exact h)
theorem Rep.orO {v : V} (r : Rep X.K (hid (UU (orA O q) ρ) H) v d) : Rep X.K (hid (UU O ρ) H) v d := r.mono (ex_hid fun a o _ n h => ⟨fun z => n (z.elim (fun z => .inl (.inl z)) .inr), h⟩)
theorem upd_upd2 {o u : HO} : upd (upd H q o) q u = upd H q u := upd_upd
/-- [elt for tg in iter if ..], by its reading -/
theorem en_lcR {T : Tg} {tt : TT} {te : TE} {wi : TI} {vs : List Nat} (how : owns ρ1 = owns ρ)
    (hw : ∀ F O σ H (R : It → Hp → Prop), SOk X.K F O ρ σ H → (∀ J H1, SOk X.K F O ρ1 σ H1 → WK X.K (VL.sup ρ1 H1) (hid (UU O ρ1) H1) J ds → R J H1) → wi σ H R) (J : Nat → Lo → List D → Prop)
    (hT : ∀ k ∈ T.slots, k ∈ vs) (hn : noMut ρ1 vs) (h0 : J 0 ρ1 [])
    (hs : ∀ (i : Nat) d ρi acc, ds[i]? = some d → Like ρ1 ρi → J i ρi acc → ∃ ρ2 k ρt, Bind T d (wipeL ρi vs) ρ2 ∧ ET X.K tt ρ2 k ρt ∧
      (k = true → ∃ r ρ3 ρ4, EV X.K te ρt r ρ3 ∧ Like ρ1 ρ4 ∧ (∀ (k : Nat) p es, ρ4[k]? = some (.mut p es) → ρ3[k]? = some (.mut p es)) ∧ acc.length < sizeLine ∧ J (i + 1) ρ4 (acc ++ [r])) ∧
      (k = false → ∃ ρ4, Like ρ1 ρ4 ∧ (∀ (k : Nat) p es, ρ4[k]? = some (.mut p es) → ρt[k]? = some (.mut p es)) ∧ J (i + 1) ρ4 acc))
    (hd : ∀ ρn acc, Like ρ1 ρn → J ds.length ρn acc → ρn = ρ' ∧ acc = es') (hl' : owns ρ' = owns ρ1) : EN X.K (tLc wi (gOf X.K T) tt te vs) ρ es' ρ' := by
  refine ⟨hl'.trans how, fun F O σ H Q I q => hw F O σ H _ I fun Jt H1 I1 wk D hD => ?_⟩
  have hS : Ex F (VL.sup ρ1 H1) := I1.le_sup
  have hSD : VL.sup ρ1 H1 D = none := by
    cases z : VL.sup ρ1 H1 D with
    | none => rfl
    | some o =>
      have := hid_ex D o z
      rw [hD] at this
      cases this
  have hT2 : ∀ accV a o, hid (UU O ρ1) H1 a = some o → (upd (VL.sup ρ1 H1) D (.lst accV)) a = some o ∧ ¬ orA O D a := fun accV a o h => by
    have := nt_hid h
    have na : a ≠ D := ne_of_none (hid_ex a o h) hD
    obtain ⟨n, h'⟩ := of_hid h
    exact ⟨by rw [upd_ne na]; exact T_S ρ1 H1 a o h, fun z => z.elim (fun z => n (.inl z)) na⟩
  have exS : ∀ accV, Ex (VL.sup ρ1 H1) (upd (VL.sup ρ1 H1) D (.lst accV)) := fun accV a o h => by rw [upd_ne (ne_of_none h hSD)]; exact h
  -- the words of the walk
  let Pv : Nat → Hp → Prop := fun i H => ∃ ρi acc accV, Like ρ1 ρi ∧ J i ρi acc ∧ SOk X.K (upd (VL.sup ρ1 H1) D (.lst accV)) (orA O D) ρi σ H ∧ Reps X.K (hid (UU (orA O D) ρi) H) accV acc
  have I1D : SOk X.K (upd (VL.sup ρ1 H1) D (.lst [])) (orA O D) ρ1 σ (upd H1 D (.lst [])) := I1.sup.orNew hD
  refine ⟨fun i m H => m = ds.length - i ∧ i ≤ ds.length ∧ Pv i H, ⟨ds.length, by simp, Nat.zero_le _, ρ1, [], [], Like.refl, h0, I1D, .nil⟩, ?_⟩
  rintro i m Hi ⟨rfl, hle, ρi, acc, accV, lk, hJ, Ii, racc⟩
  have frS : Ex (VL.sup ρ1 H1) Hi := (exS accV).trans Ii.fr
  by_cases hlt : i < ds.length
  · refine .inr ⟨wk.go i Hi hlt frS, Pv (i + 1), fun H' h => ⟨ds.length - (i + 1), by omega, rfl, hlt, h⟩, fun v H' yy => ?_⟩
    -- what is walked
    obtain ⟨d, hd', hyld⟩ := wk.yld i Hi v H' hlt frS yy
    have subT : Ex (hid (UU O ρ1) H1) (hid (UU (orA O D) ρi) Hi) := fun a o h => by
      have := nt_hid h
      obtain ⟨h1, h2⟩ := hT2 accV a o h
      exact hid_of (fun z => z.elim h2 fun z => by rw [Ii.own z] at h1; cases h1) (Ii.fr a o h1)
    have got : SOk X.K (upd (VL.sup ρ1 H1) D (.lst accV)) (orA O D) ρi σ H' ∧ Rep X.K (hid (UU (orA O D) ρi) H') v d ∧ Ex (hid (UU (orA O D) ρi) Hi) (hid (UU (orA O D) ρi) H') := by
      rcases hyld with ⟨rfl, r⟩ | ⟨p, ws, es, hp, rfl, rfl, rfl, r⟩
      · exact ⟨Ii, r.mono subT, Ex.refl _⟩
      · exact ⟨Ii.new hp, .tup (.of (Ii.newHid hp)) ((r.mono subT).mono (ex_new hp)), ex_new hp⟩
    obtain ⟨I2, rv, exY⟩ := got
    obtain ⟨ρ2, k, ρt, hb, htt, hyes, hno⟩ := hs i d ρi acc hd' lk hJ
    have nm := lk.noMut hn
    have Iw : SOk X.K (upd (VL.sup ρ1 H1) D (.lst accV)) (orA O D) (wipeL ρi vs) (wipe σ vs) H' := I2.wipe nm
    have rw' : Rep X.K (hid (UU (orA O D) (wipeL ρi vs)) H') v d := rv.mono (ex_hid fun a o _ n h => ⟨fun z => n (z.elim .inl fun ⟨es, z⟩ => .inr (by
      obtain ⟨kk, hk⟩ := List.getElem?_of_mem z
      rcases wipeL_get hk with ⟨z, _⟩ | ⟨_, h2⟩
      · cases z
      · exact ⟨es, List.mem_of_getElem? h2⟩)), h⟩)
    -- back to the def's slots: the accumulated list is seen as before
    have seen : ∀ {ρ4 ρ5 : Lo} {σ5 : L2.St} {H5 : Hp}, Like ρ1 ρ4 → (∀ (k : Nat) p es, ρ4[k]? = some (.mut p es) → ρ5[k]? = some (.mut p es)) → SOk X.K (VL.sup (wipeL ρi vs) H') (orA O D) ρ5 σ5 H5 →
        SOk X.K (upd (VL.sup ρ1 H1) D (.lst accV)) (orA O D) ρ4 σ H5 ∧ Reps X.K (hid (UU (orA O D) ρ4) H5) accV acc := fun {ρ4 ρ5 σ5 H5} l4 hm J5 => by
      have ow : owns ρ4 = owns ρi := l4.owns.trans lk.owns.symm
      have ex5 : Ex (hid (UU (orA O D) ρi) H') H5 := fun a o h => by
        have := nt_hid h
        obtain ⟨n, h'⟩ := of_hid h
        refine J5.fr a o (hid_of (fun ⟨es, z⟩ => n (.inr ?_)) h')
        obtain ⟨kk, hk⟩ := List.getElem?_of_mem z
        rcases wipeL_get hk with ⟨z, _⟩ | ⟨_, h2⟩
        · cases z
        · exact ⟨es, List.mem_of_getElem? h2⟩
      have hf5 : Ex (upd (VL.sup ρ1 H1) D (.lst accV)) H5 := fun a o h => have := Iw.ft a o h; J5.fr a o (hid_of (fun z => by rw [Iw.own z] at h; cases h) (Iw.fr a o h))
      have lk4 : Like ρi ρ4 := lk.symm.trans l4
      have J6 := SOk.back I2 J5 ex5 lk4 hm hf5
      refine ⟨J6, (racc.mono exY).mono fun a o h => ?_⟩
      have := nt_hid h
      obtain ⟨n, _⟩ := of_hid h
      refine hid_of (fun z => n ?_) (ex5 a o h)
      unfold UU at z ⊢
      rw [← ow]
      exact z
    have app : ∀ {ρ3 ρ4 : Lo} {r : VL.D} {vy : V} {H5 : Hp}, Like ρ1 ρ4 → (∀ (k : Nat) p es, ρ4[k]? = some (.mut p es) → ρ3[k]? = some (.mut p es)) → ∀ {σ5 : L2.St}, SOk X.K (VL.sup (wipeL ρi vs) H') (orA O D) ρ3 σ5 H5 → Rep X.K (hid (UU (orA O D) ρ3) H5) vy r → acc.length < sizeLine → J (i + 1) ρ4 (acc ++ [r]) →
        ∃ accW, H5 D = some (.lst accW) ∧ accW.length < sizeLine ∧ Pv (i + 1) (upd H5 D (.lst (accW ++ [vy]))) := fun {ρ3 ρ4 r vy H5} l4 hm {σ5} J5 ry hz jj => by
      obtain ⟨K1, K2⟩ := seen l4 hm J5
      refine ⟨accV, K1.fr D _ upd_same, by rw [racc.length]; exact hz, ρ4, acc ++ [r], accV ++ [vy], l4, jj, ?_, ?_⟩
      · have z := K1.under (q := D) (vs := accV ++ [vy]) (.inr rfl) (K1.fr D _ upd_same)
        rw [upd_upd] at z
        exact z
      · have eh : Ex (hid (UU (orA O D) ρ4) H5) (hid (UU (orA O D) ρ4) (upd H5 D (.lst (accV ++ [vy])))) := ex_hid fun a o _ n h => ⟨n, by rw [upd_ne (fun e => n (.inl (.inr e)))]; exact h⟩
        have sub : ∀ a, UU (orA O D) ρ4 a → UU (orA O D) ρ3 a := fun a z => z.elim .inl fun ⟨es, h⟩ => .inr (by
          obtain ⟨kk, hk⟩ := List.getElem?_of_mem h
          exact ⟨es, List.mem_of_getElem? (hm kk a es hk)⟩)
        exact (K2.mono eh).append (.one ((ry.mono (ex_hid fun a o _ n h => ⟨fun z => n (sub a z), h⟩)).mono eh))
    refine hb.run Iw.sup rw' fun σ2 L hk _ => ⟨wipe_eq (L.len.trans ?_) fun kk hkk => (hk kk fun z => hkk (hT kk z)).trans (wipe_get hkk), ?_⟩
    · rw [hb.len2, wipeL_len]
      exact I2.len.symm
    · refine htt.2 (VL.sup (wipeL ρi vs) H') (orA O D) σ2 H' _ L fun H3 L3 => ?_
      cases k with
      | true =>
        rw [if_pos rfl]
        obtain ⟨r, ρ3, ρ4, hev, l4, hm, hz, jj⟩ := hyes rfl
        exact hev.2 (VL.sup (wipeL ρi vs) H') (orA O D) σ2 H3 _ L3 fun vy H5 L5 ry => app l4 hm L5 ry hz jj
      | false =>
        rw [if_neg Bool.false_ne_true]
        obtain ⟨ρ4, l4, hm, jj⟩ := hno rfl
        obtain ⟨K1, K2⟩ := seen l4 hm L3
        exact ⟨ρ4, acc, accV, l4, jj, K1, K2⟩
  · have e : i = ds.length := by omega
    subst e
    refine .inl ⟨wk.stop Hi frS, ?_⟩
    obtain ⟨rfl, rfl⟩ := hd ρi acc lk hJ
    obtain ⟨K1, K2⟩ := Ii.orDel hSD I1.sup.od
    have hHD : Hi D = some (.lst accV) := Ii.fr D _ upd_same
    have qq := q D accV (delH Hi D) (K1.weak hS I1.od) delH_same (K2 racc)
    rw [upd_delH hHD] at qq
    exact qq
/-- a comprehension: as a value, stored under a name -/
structure CL (X : Cx) (ρ : Lo) (elt tg iter : Expr) (ifs : List Expr) (scope : Scope) (es : List D) (ρ' : Lo) : Prop where
  ex : ∃ tl : TE, (∀ pos, PE X (.ListComp elt [⟨tg, iter, ifs, 0⟩] scope pos) tl) ∧
    (∀ (i : Nat) (y : Str) (py pos spos : Pos), X.N[i]? = some y → X.env.scope.names.lookup y = some .local → swapsWith (.ListComp elt [⟨tg, iter, ifs, 0⟩] scope pos) (some (.Name y py)) spos.line X.env = pure true →
      PS X (.Assign [.Name y py] (.ListComp elt [⟨tg, iter, ifs, 0⟩] scope pos) spos) (tAsg tl (gName i))) ∧ EN X.K tl ρ es ρ'
theorem CL.cn (h : CL X ρ elt tg iter ifs scope es' ρ') : CN X ρ (.ListComp elt [⟨tg, iter, ifs, 0⟩] scope pos) es' ρ' := let ⟨_, h1, _, h3⟩ := h.ex; .of (h1 pos) h3
theorem CL.eq {es2 : List D} (h : CL X ρ elt tg iter ifs scope es' ρ') (e : es' = es2) : CL X ρ elt tg iter ifs scope es2 ρ' := e ▸ h
theorem l_lcG {T : Tg} {tt : TT} (J : Nat → Lo → List D → Prop) (B1 : X.calm = true) (B2 : X.N.Nodup) (hi : CI X ρ tg iter ds ρ1) (ok : BlkOk X.N X.env.scope scope own)
    (hg : InB X scope fun Y => PG Y tg (gOf X.K T)) (ht : InB X scope fun Y => PTs Y ifs tt) (hT : ∀ k ∈ T.slots, k ∈ own.map (·.2)) (hn : noMut ρ1 (own.map (·.2))) (h0 : J 0 ρ1 [])
    (hs : ∀ (i : Nat) d ρi acc, ds[i]? = some d → Like ρ1 ρi → J i ρi acc → ∃ ρ2 k ρt, Bind T d (wipeL ρi (own.map (·.2))) ρ2 ∧ ET X.K tt ρ2 k ρt ∧
      (k = true → ∃ r ρ3 ρ4, EV X.K (twB X scope elt) ρt r ρ3 ∧ Like ρ1 ρ4 ∧ (∀ (k : Nat) p es, ρ4[k]? = some (.mut p es) → ρ3[k]? = some (.mut p es)) ∧ acc.length < sizeLine ∧ J (i + 1) ρ4 (acc ++ [r])) ∧
      (k = false → ∃ ρ4, Like ρ1 ρ4 ∧ (∀ (k : Nat) p es, ρ4[k]? = some (.mut p es) → ρt[k]? = some (.mut p es)) ∧ J (i + 1) ρ4 acc))
    (hd : ∀ ρn acc, Like ρ1 ρn → J ds.length ρn acc → ρn = ρ' ∧ acc = es') (hl' : owns ρ' = owns ρ1) (hfs : ∀ x, foldedSetIterable iter X.env x = pure x := by intro _; rfl) :
    CL X ρ elt tg iter ifs scope es' ρ' := by
  obtain ⟨wi, hpi, how, hw⟩ := hi.ex
  exact ⟨_, fun pos => pe_lc B1 B2 hpi ok hg ht (fun s H C cl fp => pe_twB) hfs, fun i y py pos spos hy hyl hsw => ps_setLc B1 B2 hy hyl hsw hpi ok hg ht (fun s H C cl fp => pe_twB) hfs, en_lcR how hw J hT hn h0 hs hd hl'⟩
end
end VL
end

section
set_option Elab.async false
set_option linter.all false
set_option maxRecDepth 100000
set_option maxHeartbeats 4000000
namespace VL
open PySem PySem.Spec PyProof.Rows L2
section
variable {X : Cx} {e a b c tg elt iter : Expr} {es ifs : List Expr} {ρ ρ1 ρ2 ρ3 ρ' : Lo} {x y z d : D} {pos p p2 : Pos} {F F' : Hp} {O : Addr → Prop} {σ : L2.St} {H H' S T : Hp} {i j : Nat} {n m : Str} {ds es' : List D} {q : Addr} {scope : Scope} {own : List (Str × Nat)} {K : PySem.W.Frag} {W : WE} {rest : List Stmt}
theorem owns_setM (hi : ρ[i]? = some (.mut q ds)) : owns (ρ.set i (.mut q es')) = owns ρ := funext fun a => propext ⟨fun ⟨u, h⟩ => by
  rcases List.mem_or_eq_of_mem_set h with h | h
  · exact ⟨u, h⟩
  · cases h
    exact ⟨ds, List.mem_of_getElem? hi⟩, fun ⟨u, h⟩ => by
  obtain ⟨k, hk⟩ := List.getElem?_of_mem h
  have hl : i < ρ.length := (List.getElem?_eq_some_iff.mp hi).1
  by_cases e : i = k
  · subst e
    rw [hi] at hk
    cases hk
    exact ⟨es', List.mem_of_getElem? (i := i) (List.getElem?_set_self hl)⟩
  · exact ⟨u, List.mem_of_getElem? (i := k) (by rw [List.getElem?_set_ne e]; exact hk)⟩⟩
/-- the own list of slot i turned -/
theorem SOk.mutUpd {vs : List V} (I : SOk K F O ρ σ H) (hi : ρ[i]? = some (.mut q ds)) (r : Reps K (hid (UU O ρ) H) vs es') : SOk K F O (ρ.set i (.mut q es')) σ (upd H q (.lst vs)) := by
  have hl : i < ρ.length := (List.getElem?_eq_some_iff.mp hi).1
  have ho : owns ρ q := ⟨ds, List.mem_of_getElem? hi⟩
  have eu : UU O (ρ.set i (.mut q es')) = UU O ρ := funext fun a => by unfold UU; rw [owns_setM hi]
  have eh : hid (UU O (ρ.set i (.mut q es'))) (upd H q (.lst vs)) = hid (UU O ρ) H := by
    rw [eu]
    funext a
    unfold hid
    by_cases h : UU O ρ a
    · rw [if_pos (.inl h), if_pos (.inl h)]
    · have e : upd H q (.lst vs) a = H a := upd_ne fun e => h (by rw [e]; exact .inr ho)
      rw [e]
  obtain ⟨_, _, vs0, hq0, _⟩ := I.mt i q ds hi
  refine ⟨by rw [List.length_set]; exact I.len, fun k d h => ?_, fun k p es h => ?_, fun k l p es es1 h h' => ?_, fun a o h => ?_, I.od, I.tb.at hq0 fun a ha => upd_ne ha, I.ft⟩
  · rw [eh]
    by_cases e : i = k
    · subst e
      rw [List.getElem?_set_self hl] at h
      cases h
    · rw [List.getElem?_set_ne e] at h
      exact I.dat k d h
  · rw [eh]
    by_cases e : i = k
    · subst e
      rw [List.getElem?_set_self hl] at h
      cases h
      obtain ⟨h1, h2, _⟩ := I.mt i q ds hi
      exact ⟨h1, h2, vs, upd_same, r⟩
    · rw [List.getElem?_set_ne e] at h
      obtain ⟨h1, h2, ws, h3, h4⟩ := I.mt k p es h
      have np : p ≠ q := fun z => by
        subst z
        exact e (I.nd i k p ds es hi h)
      exact ⟨h1, h2, ws, by rw [upd_ne np]; exact h3, h4⟩
  · have back : ∀ {k : Nat} {p : Addr} {es : List D}, (ρ.set i (.mut q es'))[k]? = some (.mut p es) → ∃ es0, ρ[k]? = some (.mut p es0) := fun {k p es} h => by
      by_cases e : i = k
      · subst e
        rw [List.getElem?_set_self hl] at h
        cases h
        exact ⟨ds, hi⟩
      · rw [List.getElem?_set_ne e] at h
        exact ⟨es, h⟩
    obtain ⟨e0, h0⟩ := back h
    obtain ⟨e1, h1⟩ := back h'
    exact I.nd k l p e0 e1 h0 h1
  · have na : a ≠ q := fun z => by
      subst z
      rw [I.own ho] at h
      cases h
    rw [upd_ne na]
    exact I.fr a o h

/-! found.append(e); found[i] = e; found[i], x = .., .. -/
theorem css_append (i : Nat) {apos cpos xp : Pos} (he : CE X ρ e d ρ1) (hi : ρ[i]? = some (.mut q ds)) (hi1 : ρ1[i]? = some (.mut q es')) (hz : es'.length < sizeLine) (k : CSs X (ρ1.set i (.mut q (es' ++ [d]))) rest W) (hN : X.N[i]? = some n := by rfl) (hv : Vis X.env.scope n := by first | exact Or.inl rfl | exact Or.inr (Or.inl rfl) | exact Or.inr (Or.inr rfl))
    (h1 : (n == ("__debug__" : Str)) = false := by decide) (h2 : (n == ("__classdict__" : Str)) = false := by decide)
    (hbase : attributeBase (.Name n xp) "append" X.env (eval (.Name n xp) X.env) = eval (.Name n xp) X.env := by rfl)
    (hfew : ((backTo cpos (starEach (e :: []) X.env)).all (fun x => !x.1) && (backToKw cpos (keywordEach [] X.env)).all (fun x => x.1.isSome) && decide ((e :: []).length + ([] : List Keyword).length + (if ([] : List Keyword).isEmpty then 0 else 1) < 30)) = true := by rfl)
    (hline : (apos.endLine == cpos.line) = true := by rfl) (hs : starEach (e :: []) X.env = (false, eval e X.env) :: starEach [] X.env := by rfl) (hplain : (backTo cpos (starEach [] X.env)).any (·.1) = false := by rfl)
    (hsw : swapsWith (.Call (.Attribute (.Name n xp) "append" apos) [e] [] cpos) none pos.line X.env = pure false := by rfl) :
    CSs X ρ (.Expr (.Call (.Attribute (.Name n xp) "append" apos) [e] [] cpos) pos :: rest) W :=
  css_of (ps_expr (pe_bm PySem.F.plainAttrs_list PySem.F.slot_list_append PySem.F.type_list_append mt_append (pe_var hN hv h1 h2) pa_tw hbase hfew hline hs hplain) hsw) fun F O σ H E I r => by
    obtain ⟨e1, _, vs, e2, _⟩ := I.mt i q ds hi
    refine ⟨.ref q, e1, .inl ⟨rfl, vs, .of e2⟩, (d_cons he d_nil hs).2 F O σ H _ I fun ws H1 J rw' => ?_⟩
    obtain ⟨v, rfl, rv⟩ := one_of rw'
    obtain ⟨_, _, vs1, e3, r3⟩ := J.mt i q es' hi1
    refine ⟨q, vs1, v, rfl, rfl, e3, by rw [r3.length]; exact hz, r.nx _ _ _ k ?_⟩
    exact J.mutUpd hi1 (r3.append (.one rv))
/-- found[k] = e -/
theorem css_setIx (i : Nat) {xp : Pos} {ix : Expr} {k : Int} {j : Nat} (B : Bdn X) (he : CE X ρ e d ρ1) (hx : CE X ρ1 ix (.int k) ρ1) (hi1 : ρ1[i]? = some (.mut q es')) (hj : ixN es'.length k = some j) (kk : CSs X (ρ1.set i (.mut q (es'.set j d))) rest W) (hN : X.N[i]? = some n := by rfl) (hv : Vis X.env.scope n := by first | exact Or.inl rfl | exact Or.inr (Or.inl rfl) | exact Or.inr (Or.inr rfl))
    (h1 : (n == ("__debug__" : Str)) = false := by decide) (h2 : (n == ("__classdict__" : Str)) = false := by decide)
    (ha : ∀ v, assign (.Subscript (.Name n xp) ix p2) X.env v = (do
      let ov ← holding [v] (eval (.Name n xp) X.env)
      let iv ← holding [v, ov] (eval ix X.env)
      standAt p2
      holding [v, ov, iv] (setItem ov iv v)
      release [v, ov, iv] []) := by intro _; rfl)
    (hs : swapsWithSole [.Subscript (.Name n xp) ix p2] e pos.line X.env = pure false := by rfl) (hw : swappedStores [.Subscript (.Name n xp) ix p2] e X.env = pure none := by rfl)
    (hh : (assignEach [.Subscript (.Name n xp) ix p2] X.env).map (·.2) = [assign (.Subscript (.Name n xp) ix p2) X.env] := by rfl) :
    CSs X ρ (.Assign [.Subscript (.Name n xp) ix p2] e pos :: rest) W :=
  css_of (ps_asg pe_tw (pg_sub (pe_var hN hv h1 h2) pe_tw set_list ha) hs hw hh) fun F O σ H E I r => he.2 F O σ H _ I fun v H1 J rv => by
    obtain ⟨e1, _, _⟩ := J.mt i q es' hi1
    refine ⟨.ref q, e1, hx.2 _ O σ H1 _ J.sup fun w H2 L rw' => ?_⟩
    cases rw'
    have L' := L.weak J.le_sup J.od
    obtain ⟨_, _, vs1, e3, r3⟩ := L'.mt i q es' hi1
    refine ⟨q, vs1, k, j, rfl, rfl, e3, by rw [r3.length]; exact hj, r.nx _ _ _ kk ?_⟩
    exact L'.mutUpd hi1 (r3.set j (SOk.keep rfl L rv))
/-- found[k], x = e (a pair) -/
theorem css_setIxNm (i l : Nat) {xp yp : Pos} {ix : Expr} {k : Int} {j : Nat} {kt} {pt : Pos} (B : Bd X) (he : CE X ρ e (.tup [x, y]) ρ1) (hx : CE X ρ1 ix (.int k) ρ1) (hi1 : ρ1[i]? = some (.mut q es')) (hj : ixN es'.length k = some j) (kk : CSs X ((ρ1.set i (.mut q (es'.set j x))).set l (.dat y)) rest W)
    (hN : X.N[i]? = some n := by rfl) (hv : Vis X.env.scope n := by first | exact Or.inl rfl | exact Or.inr (Or.inl rfl) | exact Or.inr (Or.inr rfl)) (hl : X.N[l]? = some m := by rfl) (hxl : Loc X.env.scope m := by first | exact Or.inl rfl | exact Or.inr rfl)
    (hf : X.fn m = true ∨ X.env.scope.names.lookup m = some .local := by first | exact .inl rfl | exact .inr rfl)
    (h1 : (n == ("__debug__" : Str)) = false := by decide) (h2 : (n == ("__classdict__" : Str)) = false := by decide)
    (ha : ∀ v, assign (.Subscript (.Name n xp) ix p2) X.env v = (do
      let ov ← holding [v] (eval (.Name n xp) X.env)
      let iv ← holding [v, ov] (eval ix X.env)
      standAt p2
      holding [v, ov, iv] (setItem ov iv v)
      release [v, ov, iv] []) := by intro _; rfl)
    (hs : swapsWithSole [.Tuple [.Subscript (.Name n xp) ix p2, .Name m yp] kt pt] e pos.line X.env = pure false := by rfl) (hw : swappedStores [.Tuple [.Subscript (.Name n xp) ix p2, .Name m yp] kt pt] e X.env = pure none := by rfl)
    (hh : (assignEach [.Tuple [.Subscript (.Name n xp) ix p2, .Name m yp] kt pt] X.env).map (·.2) = [assign (.Tuple [.Subscript (.Name n xp) ix p2, .Name m yp] kt pt) X.env] := by rfl)
    (g1 : (assignEach [.Subscript (.Name n xp) ix p2, .Name m yp] X.env).map (·.2) = assign (.Subscript (.Name n xp) ix p2) X.env :: (assignEach [.Name m yp] X.env).map (·.2) := by rfl)
    (g2 : (assignEach [.Name m yp] X.env).map (·.2) = assign (.Name m yp) X.env :: (assignEach [] X.env).map (·.2) := by rfl)
    (g3 : (assignEach [.Subscript (.Name n xp) ix p2, .Name m yp] X.env).length = 2 := by rfl) (g4 : (assignEach [.Subscript (.Name n xp) ix p2, .Name m yp] X.env).findIdx? (·.1) = none := by rfl) :
    CSs X ρ (.Assign [.Tuple [.Subscript (.Name n xp) ix p2, .Name m yp] kt pt] e pos :: rest) W :=
  css_of (ps_asg pe_tw (pg_tup B.calm (pgs_cons (pg_sub (pe_var hN hv h1 h2) pe_tw set_list ha) (pgs_cons (pg_name (i := l) B.nd hl hxl hf) pgs_nil g2) g1) g3 g4) hs hw hh) fun F O σ H E I r => he.2 F O σ H _ I fun v H1 J rv => by
    cases rv with
    | @tup a vs _ h3 rs =>
      obtain ⟨u, w, rfl, r1, r2⟩ := two_of rs
      obtain ⟨e1, _, _⟩ := J.mt i q es' hi1
      refine ⟨a, [u, w], rfl, hid_ex.t h3, rfl, u, [w], rfl, .ref q, e1, hx.2 _ O σ H1 _ J.sup fun w' H2 L rw' => ?_⟩
      cases rw'
      have L' := L.weak J.le_sup J.od
      obtain ⟨_, _, vs1, e3, r3⟩ := L'.mt i q es' hi1
      refine ⟨q, vs1, k, j, rfl, rfl, e3, by rw [r3.length]; exact hj, w, [], rfl, rfl, r.nx _ _ _ kk ?_⟩
      have M := L'.mutUpd hi1 (r3.set j (SOk.keep rfl L r1))
      refine M.set ((SOk.keep rfl L r2).mono (ex_hid fun a o _ nn h => ?_))
      have ho : owns ρ1 q := ⟨es', List.mem_of_getElem? hi1⟩
      refine ⟨fun z => nn ?_, by rw [upd_ne fun e => nn (by rw [e]; exact .inr ho)]; exact h⟩
      unfold UU at z ⊢
      rw [owns_setM hi1] at z
      exact z
/-- x += e, ints -/
theorem css_augAdd (i : Nat) {k l : Int} (B : Bdn X) (hx0 : ρ[i]? = some (.dat (.int k))) (he : CE X ρ e (.int l) ρ1) (kk : CSs X (ρ1.set i (.dat (.int (k + l)))) rest W) (hi : X.N[i]? = some n := by rfl) (hx : Loc X.env.scope n := by first | exact Or.inl rfl | exact Or.inr rfl)
    (hf : X.fn n = true ∨ X.env.scope.names.lookup n = some .local := by first | exact .inl rfl | exact .inr rfl) : CSs X ρ (.AugAssign (.Name n p) .Add e pos :: rest) W :=
  css_of (ps_aug B.nd hi hx pe_tw ip_add hf) fun F O σ H E I r => by
    obtain ⟨v, e1, rv⟩ := I.dat i _ hx0
    cases rv
    refine ⟨_, e1, he.2 F O σ H _ I fun w H1 J rw' => ?_⟩
    cases rw'
    exact ⟨k, l, rfl, rfl, r.nx _ _ _ kk (J.set (.int _))⟩
/-- a, b, c = x, y, z: three local names -/
theorem css_par3 (i j l : Nat) {m2 : Str} {px py pz pt pt2 : Pos} {kt k2} (B : Bd X) (ha : CD X ρ [a, b, c] [x, y, z] ρ1) (k : CSs X (((ρ1.set i (.dat x)).set j (.dat y)).set l (.dat z)) rest W) (hij : i ≠ j := by decide) (hil : i ≠ l := by decide) (hjl : j ≠ l := by decide)
    (hi : X.N[i]? = some n := by rfl) (hj : X.N[j]? = some m := by rfl) (hl : X.N[l]? = some m2 := by rfl)
    (hx : X.env.scope.names.lookup n = some .local := by rfl) (hy : X.env.scope.names.lookup m = some .local := by rfl) (hz : X.env.scope.names.lookup m2 = some .local := by rfl)
    (hw : swappedStores [.Tuple [.Name n px, .Name m py, .Name m2 pz] kt pt] (.Tuple [a, b, c] k2 pt2) X.env = pure (some [n, m, m2]) := by rfl)
    (hs : swapsWithSole [.Tuple [.Name n px, .Name m py, .Name m2 pz] kt pt] (.Tuple [a, b, c] k2 pt2) pos.line X.env = pure false := by rfl) : CSs X ρ (.Assign [.Tuple [.Name n px, .Name m py, .Name m2 pz] kt pt] (.Tuple [a, b, c] k2 pt2) pos :: rest) W :=
  css_of (ps_par3 B.calm B.nd hi hj hl hij hil hjl hx hy hz pa_tw hw hs) fun F O σ H E I r => ha.2 F O σ H _ I fun vs H1 J rv => by
    obtain ⟨v, w, u, rfl, r1, r2, r3⟩ := three_of rv
    have ex : ∀ {ρ : Lo} {i : Nat} {d : D}, Ex (hid (UU O ρ) H1) (hid (UU O (ρ.set i (.dat d))) H1) := fun {ρ i d} => ex_hid fun a o _ nn h => ⟨fun z => nn (UU_set datNe z), h⟩
    refine ⟨v, w, u, rfl, r.nx _ _ _ k (((J.set r1).set (r2.mono ex)).set ((r3.mono ex).mono ex))⟩

/-! ### calls that turn an own list -/
/-- what a call wants of its arguments: the own list of a slot first, data behind -/
theorem argsM_ok {ws : List V} {cs : List V} (I : SOk K F O ρ σ H) (hi : ρ[i]? = some (.mut q es')) (rs : Reps K (hid (UU O ρ) H) ws ds) : SOk K (VL.sup (.mut q es' :: ds.map .dat) H) (fun a => UU O ρ a ∧ a ≠ q) (.mut q es' :: ds.map .dat) ((V.ref q :: ws).map some) H := by
  have ow : ∀ a, owns (.mut q es' :: ds.map .dat) a ↔ a = q := fun a => ⟨fun ⟨u, h⟩ => by
    rcases List.mem_cons.mp h with h | h
    · cases h; rfl
    · exact absurd ⟨u, h⟩ owns_dats, fun e => ⟨es', by rw [e]; exact List.mem_cons_self⟩⟩
  have ho : UU O ρ q := .inr ⟨es', List.mem_of_getElem? hi⟩
  have eu : ∀ a, UU O ρ a ↔ UU (fun a => UU O ρ a ∧ a ≠ q) (.mut q es' :: ds.map .dat) a := fun a => ⟨fun z => by
    by_cases e : a = q
    · exact .inr ((ow a).mpr e)
    · exact .inl ⟨z, e⟩, fun z => z.elim (·.1) fun z => by rw [(ow a).mp z]; exact ho⟩
  have eh : hid (UU (fun a => UU O ρ a ∧ a ≠ q) (.mut q es' :: ds.map .dat)) H = hid (UU O ρ) H := (hid_congr eu).symm
  obtain ⟨h1, h2, vs, h3, h4⟩ := I.mt i q es' hi
  refine ⟨?_, fun k d h => ?_, fun k p es h => ?_, fun k l p es es1 h h' => ?_, hid_ex, fun a ha => ?_, I.tb, fun _ _ h => nt_hid h⟩
  · rw [List.length_map, List.length_cons, List.length_cons, List.length_map, rs.length]
  · cases k with
    | zero => cases h
    | succ k =>
      rw [List.getElem?_cons_succ, List.getElem?_map] at h
      cases hq : ds[k]? with
      | none => rw [hq] at h; cases h
      | some d' =>
        rw [hq] at h
        cases h
        obtain ⟨v, e1, e2⟩ := rs.get hq
        refine ⟨v, by rw [List.map_cons, List.getElem?_cons_succ, List.getElem?_map, e1]; rfl, ?_⟩
        rw [eh]
        exact e2
  · cases k with
    | zero =>
      cases h
      refine ⟨rfl, ?_, vs, h3, by rw [eh]; exact h4⟩
      unfold VL.sup hid
      rw [if_pos (.inl ((ow q).mpr rfl))]
    | succ k =>
      rw [List.getElem?_cons_succ] at h
      exact absurd ⟨es, List.mem_of_getElem? h⟩ owns_dats
  · have z0 : ∀ {k : Nat} {p : Addr} {es : List D}, (Sl.mut q es' :: ds.map .dat)[k]? = some (.mut p es) → k = 0 := fun {k p es} h => by
      cases k with
      | zero => rfl
      | succ k =>
        rw [List.getElem?_cons_succ] at h
        exact absurd ⟨es, List.mem_of_getElem? h⟩ owns_dats
    rw [z0 h, z0 h']
  · obtain ⟨u, e, t⟩ := I.odU a ha.1
    exact ⟨u, hid_of (fun z => ha.2 ((ow a).mp z)) e⟩
theorem backM {ws : List V} {H1 : Hp} {cs : List D} (I : SOk K F O ρ σ H) (hi : ρ[i]? = some (.mut q es')) (J : SOk K (VL.sup (.mut q es' :: ds.map .dat) H) (fun a => UU O ρ a ∧ a ≠ q) (.mut q cs :: ds.map .dat) ((V.ref q :: ws).map some) H1) :
    SOk K F O (ρ.set i (.mut q cs)) σ H1 ∧ ∀ {v : V} {d : D}, Rep K (hid (UU (fun a => UU O ρ a ∧ a ≠ q) (.mut q cs :: ds.map .dat)) H1) v d → Rep K (hid (UU O (ρ.set i (.mut q cs))) H1) v d := by
  have ow : ∀ (es' : List D) a, owns (.mut q es' :: ds.map .dat) a ↔ a = q := fun es' a => ⟨fun ⟨u, h⟩ => by
    rcases List.mem_cons.mp h with h | h
    · cases h; rfl
    · exact absurd ⟨u, h⟩ owns_dats, fun e => ⟨es', by rw [e]; exact List.mem_cons_self⟩⟩
  have ho : UU O ρ q := .inr ⟨es', List.mem_of_getElem? hi⟩
  have eu1 : UU O (ρ.set i (.mut q cs)) = UU O ρ := funext fun a => by unfold UU; rw [owns_setM hi]
  have eh : hid (UU (fun a => UU O ρ a ∧ a ≠ q) (.mut q cs :: ds.map .dat)) H1 = hid (UU O (ρ.set i (.mut q cs))) H1 := by
    rw [eu1]
    refine hid_congr fun a => ⟨fun z => z.elim (·.1) fun z => by rw [(ow cs a).mp z]; exact ho, fun z => ?_⟩
    by_cases e : a = q
    · exact .inr ((ow cs a).mpr e)
    · exact .inl ⟨z, e⟩
  have ex : ∀ a o, NT o → a ≠ q → H a = some o → H1 a = some o := fun a o _ ne h => J.fr a o (hid_of (fun z => ne ((ow es' a).mp z)) h)
  have hl : i < ρ.length := (List.getElem?_eq_some_iff.mp hi).1
  obtain ⟨_, _, vs1, j3, j4⟩ := J.mt 0 q cs rfl
  have exh : Ex (hid (UU O ρ) H) (hid (UU O (ρ.set i (.mut q cs))) H1) := by
    rw [eu1]
    exact ex_hid fun a o t n h => ⟨n, ex a o t (fun e => n (by rw [e]; exact ho)) h⟩
  refine ⟨⟨by rw [List.length_set]; exact I.len, fun k d h => ?_, fun k p es h => ?_, fun k l p es es1 h h' => ?_, fun a o h => ?_, I.od, J.tb, I.ft⟩, fun {v d} r => by rw [← eh]; exact r⟩
  · by_cases e : i = k
    · subst e
      rw [List.getElem?_set_self hl] at h
      cases h
    · rw [List.getElem?_set_ne e] at h
      obtain ⟨v, e1, e2⟩ := I.dat k d h
      exact ⟨v, e1, e2.mono exh⟩
  · by_cases e : i = k
    · subst e
      rw [List.getElem?_set_self hl] at h
      cases h
      obtain ⟨h1, h2, _⟩ := I.mt i q es' hi
      exact ⟨h1, h2, vs1, j3, by rw [← eh]; exact j4⟩
    · rw [List.getElem?_set_ne e] at h
      obtain ⟨h1, h2, vs, h3, h4⟩ := I.mt k p es h
      have np : p ≠ q := fun z => by
        subst z
        exact e (I.nd i k p es' es hi h)
      exact ⟨h1, h2, vs, ex p _ inferInstance np h3, h4.mono exh⟩
  · have back : ∀ {k : Nat} {p : Addr} {es : List D}, (ρ.set i (.mut q cs))[k]? = some (.mut p es) → ∃ es0, ρ[k]? = some (.mut p es0) := fun {k p es} h => by
      by_cases e : i = k
      · subst e
        rw [List.getElem?_set_self hl] at h
        cases h
        exact ⟨es', hi⟩
      · rw [List.getElem?_set_ne e] at h
        exact ⟨es, h⟩
    obtain ⟨e0, h0⟩ := back h
    obtain ⟨e1, h1⟩ := back h'
    exact I.nd k l p e0 e1 h0 h1
  · have na : a ≠ q := fun z => by
      subst z
      have h1 := (I.mt i a es' hi).2.1
      rw [h1] at h
      cases h
    exact ex a o (I.ft a o h) na (I.fr a o h)
variable {k : Nat} {g : Str} {Sp : Spec}
/-- f(hand, e, ..): the own list of slot i turns -/
theorem c_callM (i : Nat) {cs : List D} {xp : Pos} (Fn : FnV X.prog X.w X.K X.mg X.base k g Sp) (hr : Room k X.A) (hi : ρ[i]? = some (.mut q ds)) (ha : CD X ρ es es' ρ1) {cs1 : List D} (hi1 : ρ1[i]? = some (.mut q cs1))
    (hS : ∀ R : Res → Lo → Prop, R (.ok d) (.mut q cs :: es'.map .dat) → Sp (.mut q cs1 :: es'.map .dat) R) (hg : Gl X g := by rfl) (hN : X.N[i]? = some n := by rfl) (hv : Vis X.env.scope n := by first | exact Or.inl rfl | exact Or.inr (Or.inl rfl) | exact Or.inr (Or.inr rfl))
    (h1 : (n == ("__debug__" : Str)) = false := by decide) (h2 : (n == ("__classdict__" : Str)) = false := by decide) (hdb : (g == ("__debug__" : Str)) = false := by decide)
    (he : starEach (.Name n xp :: es) X.env = (false, eval (.Name n xp) X.env) :: starEach es X.env := by rfl) (hpl : (backTo pos (starEach es X.env)).any (·.1) = false := by rfl) :
    CE X ρ (.Call (.Name g p) (.Name n xp :: es) [] pos) d (ρ1.set i (.mut q cs)) := by
  obtain ⟨f, fd, ps, hF, hm, hk, hb⟩ := Fn.ex
  refine .of (pe_call hF hr hg hm hk hb .nil passLN (pa_cons (pe_var hN hv h1 h2) pa_tw he) hdb he hpl) ⟨(owns_setM hi1).trans ha.1, fun F O σ H Q I qq => ?_⟩
  obtain ⟨e1, _, _⟩ := I.mt i q ds hi
  refine ⟨.ref q, e1, ha.2 F O σ H _ I fun ws H1 J rs => ?_⟩
  refine ⟨fun a => UU O ρ1 a ∧ a ≠ q, .mut q cs1 :: es'.map .dat, ?_, ?_⟩
  · rw [List.append_nil]
    exact argsM_ok (cs := []) J hi1 rs
  · refine hS _ fun _ H' L v rv => ?_
    rw [List.append_nil] at L
    obtain ⟨M1, M2⟩ := backM J hi1 L
    exact qq v H' M1 (M2 rv)
/-- .. with all its outcomes -/
theorem q_callM (i : Nat) {xp : Pos} {R : Res → Lo → Prop} (Fn : FnV X.prog X.w X.K X.mg X.base k g Sp) (hr : Room k X.A) (hi : ρ[i]? = some (.mut q ds)) (ha : CD X ρ es es' ρ1) {cs1 : List D} (hi1 : ρ1[i]? = some (.mut q cs1))
    (hS : Sp (.mut q cs1 :: es'.map .dat) fun r ρa => ∃ cs, ρa = .mut q cs :: es'.map .dat ∧ R r (ρ1.set i (.mut q cs))) (hg : Gl X g := by rfl) (hN : X.N[i]? = some n := by rfl) (hv : Vis X.env.scope n := by first | exact Or.inl rfl | exact Or.inr (Or.inl rfl) | exact Or.inr (Or.inr rfl))
    (h1 : (n == ("__debug__" : Str)) = false := by decide) (h2 : (n == ("__classdict__" : Str)) = false := by decide) (hdb : (g == ("__debug__" : Str)) = false := by decide)
    (he : starEach (.Name n xp :: es) X.env = (false, eval (.Name n xp) X.env) :: starEach es X.env := by rfl) (hpl : (backTo pos (starEach es X.env)).any (·.1) = false := by rfl) :
    CQ X ρ (.Call (.Name g p) (.Name n xp :: es) [] pos) R := fun F O σ H Q Wx I tk q1 q2 pins s Iv => by
  obtain ⟨f, fd, ps, hF, hm, hk, hb⟩ := Fn.ex
  refine (pe_callS hF hr hg hm hk hb (fun σ => L2N.passAt tk σ) (pa_cons (pe_var hN hv h1 h2) pa_tw he) hdb he hpl).run pins s σ H Q Iv ?_
  obtain ⟨e1, _, _⟩ := I.mt i q ds hi
  refine ⟨.ref q, e1, ha.2 F O σ H _ I fun ws H1 J rs => ?_⟩
  refine ⟨fun a => UU O ρ1 a ∧ a ≠ q, .mut q cs1 :: es'.map .dat, argsM_ok (cs := []) J hi1 rs, Fn.mono _ _ _ (fun r ρa ⟨cs, ea, hR⟩ => ?_) hS⟩
  subst ea
  intro _ H' L
  obtain ⟨M1, M2⟩ := backM J hi1 L
  cases r with
  | ok d => exact fun v rv => q1 d _ v H' hR ((owns_setM hi1).trans ha.1) M1 (M2 rv)
  | error er =>
    refine fun cls dd ⟨h5, h6⟩ => q2 er _ H' cls dd hR M1 ⟨h5, ?_⟩
    rcases h6 with h6 | ⟨aa, fv, h7, h8, h9⟩
    · exact .inl h6
    · have M3 : ∀ {u : V} {d : D}, Rep X.K (hid (UU (fun a => UU O ρ1 a ∧ a ≠ q) (.mut q cs :: es'.map .dat)) H') u d → Rep X.K (hid (UU O (ρ1.set i (.mut q cs))) H') u d := M2
      have M4 : ∀ {fvs : List (Str × V)} {fs : List (Str × D)}, RepF X.K (hid (UU (fun a => UU O ρ1 a ∧ a ≠ q) (.mut q cs :: es'.map .dat)) H') fvs fs → RepF X.K (hid (UU O (ρ1.set i (.mut q cs))) H') fvs fs := fun {fvs fs} h => by
        induction fvs generalizing fs with
        | nil => cases h; exact .nil
        | cons hd tl ih => cases h with
          | cons r1 r2 => exact .cons (M3 r1) (ih r2)
      refine .inr ⟨aa, fv, h7, ?_, M4 h9⟩
      have := nt_hid h8
      obtain ⟨n1, n2⟩ := of_hid h8
      refine hid_of (fun z => n1 ?_) n2
      unfold UU at z
      rw [owns_setM hi1] at z
      by_cases e : aa = q
      · exact .inr ⟨cs, by rw [e]; exact List.mem_cons_self⟩
      · exact .inl ⟨z, e⟩
/-- f(e, ..) on data with all its outcomes -/
theorem q_call {R : Res → Lo → Prop} (Fn : FnV X.prog X.w X.K X.mg X.base k g Sp) (hr : Room k X.A) (ha : CD X ρ (e :: es) ds ρ1) (hS : Sp (ds.map .dat) fun r ρa => ρa = ds.map .dat ∧ R r ρ1) (hg : Gl X g := by rfl) (hdb : (g == ("__debug__" : Str)) = false := by decide)
    (he : starEach (e :: es) X.env = (false, eval e X.env) :: starEach es X.env := by rfl) (hpl : (backTo pos (starEach es X.env)).any (·.1) = false := by rfl) : CQ X ρ (.Call (.Name g p) (e :: es) [] pos) R := fun F O σ H Q Wx I tk q1 q2 pins s Iv => by
  obtain ⟨f, fd, ps, hF, hm, hk, hb⟩ := Fn.ex
  refine (pe_callS hF hr hg hm hk hb (fun σ => L2N.passAt tk σ) pa_tw hdb he hpl).run pins s σ H Q Iv ?_
  refine ha.2 F O σ H _ I fun vs H1 J rs => ?_
  have eu : ∀ a, UU (UU O ρ1) (ds.map .dat) a ↔ UU O ρ1 a := fun a => ⟨fun z => z.elim id fun z => absurd z owns_dats, .inl⟩
  refine ⟨UU O ρ1, ds.map .dat, args_ok rs J.odU J.tb, Fn.mono _ _ _ (fun r ρa ⟨ea, hR⟩ => ?_) hS⟩
  subst ea
  intro _ H' L
  have M := J.ext (ex_dats L) L.tb
  cases r with
  | ok d => exact fun v rv => q1 d _ v H' hR ha.1 M (by rw [← hid_congr eu]; exact rv)
  | error er => exact fun cls dd h => q2 er _ H' cls dd hR M (by rw [← hid_congr eu]; exact h)
end
end VL
end

section
set_option Elab.async false
set_option linter.all false
set_option maxRecDepth 100000
set_option maxHeartbeats 4000000
namespace VL
open PySem PySem.Spec PyProof.Rows L2

/-! ### a def by its body -/
section
variable {P : Program} {w : World} {K : PySem.W.Frag} {mg : Str → Option Value} {base : Heap} {k : Nat} {x : Str} {st : Stmt} {f : Addr} {fd : FuncData} {N ps : List Str}
abbrev cx (P : Program) (w : World) (K : PySem.W.Frag) (mg : Str → Option Value) (base : Heap) (N : List Str) (x : Str) (st : Stmt) (f : Addr) (cdv : Value) (A : Around) (outer : List Env) (s : Shared) (H : Hp) (E : XK) : Cx := cxOf (L2N.CX P w) P w K mg base N x (defScope st) f cdv A outer s H E
theorem bd_cx {cdv : Value} {A : Around} {outer : List Env} {s : Shared} {H : Hp} {E : XK} (nd : N.Nodup) : Bd (cx P w K mg base N x st f cdv A outer s H E) := ⟨rfl, nd, passes_of rfl⟩
theorem takes_cx {cdv : Value} {A : Around} {outer : List Env} {s : Shared} {H : Hp} {E : XK} : L2N.Takes (cx P w K mg base N x st f cdv A outer s H E) (fun cls d _ H => E cls d H) := L2N.takes_of rfl rfl rfl rfl
theorem SOk.more {F : Hp} {O : Addr → Prop} {ρ : Lo} {σ : L2.St} {H : Hp} (I : SOk K F O ρ σ H) (m : Nat) : SOk K F O (ρ ++ List.replicate m .un) (σ ++ List.replicate m none) H := by
  have un : ∀ {i : Nat} {s : Sl}, (ρ ++ List.replicate m .un)[i]? = some s → s ≠ .un → ρ[i]? = some s := fun {i s} h hs => by
    by_cases hi : i < ρ.length
    · rw [List.getElem?_append_left hi] at h
      exact h
    · rw [List.getElem?_append_right (by omega)] at h
      have := List.mem_of_getElem? h
      exact absurd (List.eq_of_mem_replicate this) hs
  have left : ∀ {i : Nat} {v : Option V}, σ[i]? = some v → (σ ++ List.replicate m none)[i]? = some v := fun {i v} h => by
    rw [List.getElem?_append_left (List.getElem?_eq_some_iff.mp h).1]
    exact h
  have ow : owns (ρ ++ List.replicate m .un) = owns ρ := funext fun a => propext ⟨fun ⟨u, h⟩ => by
    obtain ⟨i, hi⟩ := List.getElem?_of_mem h
    exact ⟨u, List.mem_of_getElem? (un hi (by intro z; cases z))⟩, fun ⟨u, h⟩ => ⟨u, List.mem_append_left _ h⟩⟩
  have eu : UU O (ρ ++ List.replicate m .un) = UU O ρ := funext fun a => by unfold UU; rw [ow]
  refine ⟨by rw [List.length_append, List.length_append, List.length_replicate, List.length_replicate, I.len], fun i d h => ?_, fun i p ds h => ?_, fun i j p ds ds' h h' => ?_, I.fr, I.od, I.tb, I.ft⟩
  · obtain ⟨v, h1, h2⟩ := I.dat i d (un h (by intro z; cases z))
    rw [eu]
    exact ⟨v, left h1, h2⟩
  · obtain ⟨h1, h2, vs, h3, h4⟩ := I.mt i p ds (un h (by intro z; cases z))
    rw [eu]
    exact ⟨left h1, h2, vs, h3, h4⟩
  · exact I.nd i j p ds ds' (un h (by intro z; cases z)) (un h' (by intro z; cases z))
theorem start_eq {vs : List V} {ps : List Str} (h : vs.length = ps.length) : L2.start N vs = vs.map some ++ List.replicate (N.length - ps.length) none := by unfold L2.start; rw [h]
/-- data in, a result out -/
theorem fn_pure {A : List D → Res → Prop} (Fu : Fun K x x st f fd) (Sc : FnScope N ps (defScope st)) (hb : Binds K fd ps []) (hm : mg x = some (.ref f)) (hlen : ∀ ds r, A ds r → ds.length = ps.length)
    (hbody : ∀ (cdv : Value) (A' : Around) (outer : List Env) (s : Shared) (H : Hp) (E : XK), Room k (cx P w K mg base N x st f cdv A' outer s H E).A → Bd (cx P w K mg base N x st f cdv A' outer s H E) → ∀ ds r, A ds r →
      CSs (cx P w K mg base N x st f cdv A' outer s H E) (ds.map .dat ++ List.replicate (N.length - ps.length) .un) (defBody st) { nx := fun _ => r = .ok .non, rt := fun d _ => r = .ok d, er := fun e _ => r = .error e }) : FnV P w K mg base (k + 1) x (detS A) := by
  refine ⟨detS_mono, f, fd, ps, Fun.okXN Fu Sc (fun vs H Q E h => ?_) (fun cdv A' outer s H vs Q E hr h => ⟨_, pss_tw, ?_⟩), hm, Fu.kp, hb⟩
  · obtain ⟨O, ρ, I, ds, r, rfl, a, _⟩ := h
    have := I.len
    rw [List.length_map, List.length_map] at this
    rw [this]
    exact hlen ds r a
  · obtain ⟨O, ρ, I, ds, r, rfl, a, po⟩ := h
    have hl : vs.length = ps.length := by
      have := I.len
      rw [List.length_map, List.length_map] at this
      rw [this]
      exact hlen ds r a
    intro pins s1 Iv
    rw [start_eq hl] at Iv
    have post := po rfl
    have exH : ExN H (VL.sup (ds.map .dat) H) := fun a o _ h => hid_of owns_dats h
    have sub : ∀ {ρ' : Lo} {H' : Hp} a, UU O (ds.map .dat) a → UU O ρ' a := fun a z => z.elim .inl fun z => absurd z owns_dats
    refine hbody cdv A' outer s H E hr (bd_cx Sc.nd) ds r a (VL.sup (ds.map .dat) H) O _ H _ (I.more _) ⟨fun ρ' σ' H' h J => ?_, fun d ρ' σ' H' v h J rv => ?_, fun _ _ _ h _ => h.elim, fun _ _ _ h _ => h.elim, _, takes_cx, fun er ρ' σ' H' cls dd h J re => ?_⟩ pins s1 Iv
    · subst h
      exact post H' (I.ext (exH.trans J.fr.nt) J.tb) .non .non
    · subst h
      exact post H' (I.ext (exH.trans J.fr.nt) J.tb) v (rv.mono (ex_hid fun a o _ n h => ⟨fun z => n (sub (H' := H') a z), h⟩))
    · subst h
      obtain ⟨e1, e2⟩ := re
      refine post H' (I.ext (exH.trans J.fr.nt) J.tb) cls dd ⟨e1, ?_⟩
      rcases e2 with e2 | ⟨aa, fv, h7, h8, h9⟩
      · exact .inl e2
      · have ex := ex_hid (U := UU O ρ') (U' := UU O (ds.map .dat)) (H := H') (H' := H') fun a o _ n h => ⟨fun z => n (sub (H' := H') a z), h⟩
        exact .inr ⟨aa, fv, h7, ex _ _ h8, RepF.mono ex h9⟩
/-- an own list first, which turns; data behind -/
def mutS (A : List D → List D → (Res → List D → Prop) → Prop) : Spec := fun ρ R => ∃ q cs ds, ρ = .mut q cs :: ds.map .dat ∧ A cs ds fun r cs' => R r (.mut q cs' :: ds.map .dat)
theorem fn_mutC {A : List D → List D → (Res → List D → Prop) → Prop} (mo : ∀ cs ds (R R' : Res → List D → Prop), (∀ r c, R r c → R' r c) → A cs ds R → A cs ds R') (Fu : Fun K x x st f fd) (Sc : FnScope N ps (defScope st)) (hb : Binds K fd ps []) (hm : mg x = some (.ref f)) (hlen : ∀ cs ds R, A cs ds R → ds.length + 1 = ps.length)
    (hbody : ∀ (cdv : Value), fd.code = cdv → ∀ (A' : Around) (outer : List Env) (s : Shared) (H : Hp) (E : XK), Room k (cx P w K mg base N x st f cdv A' outer s H E).A → Bd (cx P w K mg base N x st f cdv A' outer s H E) → ∀ q cs ds R, A cs ds R →
      CSs (cx P w K mg base N x st f cdv A' outer s H E) (.mut q cs :: ds.map .dat ++ List.replicate (N.length - ps.length) .un) (defBody st)
        { nx := fun ρ' => ∃ cs', ρ'[0]? = some (.mut q cs') ∧ R (.ok .non) cs', rt := fun d ρ' => ∃ cs', ρ'[0]? = some (.mut q cs') ∧ R (.ok d) cs', er := fun e ρ' => ∃ cs', ρ'[0]? = some (.mut q cs') ∧ R (.error e) cs' }) : FnV P w K mg base (k + 1) x (mutS A) := by
  refine ⟨fun ρ R R' h ⟨q, cs, ds, e, a⟩ => ⟨q, cs, ds, e, mo _ _ _ _ (fun r c hr => h _ _ hr) a⟩, f, fd, ps, Fun.okXC Fu Sc (fun vs H Q E h => ?_) (fun cdv hcd A' outer s H vs Q E hr h => ⟨_, pss_tw, ?_⟩), hm, Fu.kp, hb⟩
  · obtain ⟨O, ρ, I, q, cs, ds, rfl, a⟩ := h
    have := I.len
    rw [List.length_map, List.length_cons, List.length_map] at this
    rw [this]
    exact hlen _ _ _ a
  · obtain ⟨O, ρ, I, q, cs, ds, rfl, a⟩ := h
    have hl : vs.length = ps.length := by
      have := I.len
      rw [List.length_map, List.length_cons, List.length_map] at this
      rw [this]
      exact hlen _ _ _ a
    intro pins s1 Iv
    rw [start_eq hl] at Iv
    have ow : ∀ (cs : List D) a, owns (.mut q cs :: ds.map .dat) a ↔ a = q := fun cs a => ⟨fun ⟨u, h⟩ => by
      rcases List.mem_cons.mp h with h | h
      · cases h; rfl
      · exact absurd ⟨u, h⟩ owns_dats, fun e => ⟨cs, by rw [e]; exact List.mem_cons_self⟩⟩
    have owe : ∀ cs', owns (.mut q cs' :: ds.map .dat) = owns (.mut q cs :: ds.map .dat) := fun cs' => funext fun a => propext ((ow cs' a).trans (ow cs a).symm)
    -- behind the body: the arguments, the list as it stands
    have fin : ∀ {ρ' : Lo} {σ' : L2.St} {H' : Hp} {cs' : List D}, ρ'[0]? = some (.mut q cs') → SOk K (VL.sup (.mut q cs :: ds.map .dat) H) O ρ' σ' H' →
        SOk K (VL.sup (.mut q cs :: ds.map .dat) H) O (.mut q cs' :: ds.map .dat) (vs.map some) H' ∧ Ex (hid (UU O ρ') H') (hid (UU O (.mut q cs' :: ds.map .dat)) H') := fun {ρ' σ' H' cs'} h0 J => by
      have sub : ∀ a, UU O (.mut q cs' :: ds.map .dat) a → UU O ρ' a := fun a z => z.elim .inl fun z => .inr ⟨cs', by rw [(ow cs' a).mp z]; exact List.mem_of_getElem? h0⟩
      have ex : Ex (hid (UU O ρ') H') (hid (UU O (.mut q cs' :: ds.map .dat)) H') := ex_hid fun a o _ n h => ⟨fun z => n (sub a z), h⟩
      have exA : Ex (hid (UU O (.mut q cs :: ds.map .dat)) H) (hid (UU O (.mut q cs' :: ds.map .dat)) H') := ex_hid fun a o _ n h => by
        refine ⟨fun z => n (z.elim .inl fun z => .inr (by rw [← owe cs']; exact z)), J.fr a o (hid_of (fun z => n (.inr z)) h)⟩
      obtain ⟨j1, j2, ws, j3, j4⟩ := J.mt 0 q cs' h0
      refine ⟨⟨by rw [I.len]; rfl, fun i d h => ?_, fun i p es h => ?_, fun i j p es es' h h' => ?_, J.fr, I.od, J.tb, I.ft⟩, ex⟩
      · cases i with
        | zero => cases h
        | succ i =>
          obtain ⟨v, e1, e2⟩ := I.dat (i + 1) d h
          exact ⟨v, e1, e2.mono exA⟩
      · cases i with
        | zero =>
          cases h
          obtain ⟨i1, i2, _⟩ := I.mt 0 q cs rfl
          exact ⟨i1, i2, ws, j3, j4.mono ex⟩
        | succ i => exact absurd ⟨es, List.mem_of_getElem? (show (ds.map Sl.dat)[i]? = some (.mut p es) from h)⟩ owns_dats
      · have z0 : ∀ {i : Nat} {p : Addr} {es : List D}, (Sl.mut q cs' :: ds.map .dat)[i]? = some (.mut p es) → i = 0 := fun {i p es} h => by
          cases i with
          | zero => rfl
          | succ i => exact absurd ⟨es, List.mem_of_getElem? (show (ds.map Sl.dat)[i]? = some (.mut p es) from h)⟩ owns_dats
        rw [z0 h, z0 h']
    refine hbody cdv hcd A' outer s H E hr (bd_cx Sc.nd) q cs ds _ a (VL.sup (.mut q cs :: ds.map .dat) H) O _ H _ (I.more _) ⟨fun ρ' σ' H' h J => ?_, fun d ρ' σ' H' v h J rv => ?_, fun _ _ _ h _ => h.elim, fun _ _ _ h _ => h.elim, _, takes_cx, fun er ρ' σ' H' cls dd h J re => ?_⟩ pins s1 Iv
    · obtain ⟨cs', h0, po⟩ := h
      obtain ⟨M, _⟩ := fin h0 J
      exact po (owe cs') H' M .non .non
    · obtain ⟨cs', h0, po⟩ := h
      obtain ⟨M, ex⟩ := fin h0 J
      exact po (owe cs') H' M v (rv.mono ex)
    · obtain ⟨cs', h0, po⟩ := h
      obtain ⟨M, ex⟩ := fin h0 J
      obtain ⟨e1, e2⟩ := re
      refine po (owe cs') H' M cls dd ⟨e1, ?_⟩
      rcases e2 with e2 | ⟨aa, fv, h7, h8, h9⟩
      · exact .inl e2
      · exact .inr ⟨aa, fv, h7, ex _ _ h8, RepF.mono ex h9⟩
theorem fn_mut {A : List D → List D → (Res → List D → Prop) → Prop} (mo : ∀ cs ds (R R' : Res → List D → Prop), (∀ r c, R r c → R' r c) → A cs ds R → A cs ds R') (Fu : Fun K x x st f fd) (Sc : FnScope N ps (defScope st)) (hb : Binds K fd ps []) (hm : mg x = some (.ref f)) (hlen : ∀ cs ds R, A cs ds R → ds.length + 1 = ps.length)
    (hbody : ∀ (cdv : Value) (A' : Around) (outer : List Env) (s : Shared) (H : Hp) (E : XK), Room k (cx P w K mg base N x st f cdv A' outer s H E).A → Bd (cx P w K mg base N x st f cdv A' outer s H E) → ∀ q cs ds R, A cs ds R →
      CSs (cx P w K mg base N x st f cdv A' outer s H E) (.mut q cs :: ds.map .dat ++ List.replicate (N.length - ps.length) .un) (defBody st)
        { nx := fun ρ' => ∃ cs', ρ'[0]? = some (.mut q cs') ∧ R (.ok .non) cs', rt := fun d ρ' => ∃ cs', ρ'[0]? = some (.mut q cs') ∧ R (.ok d) cs', er := fun e ρ' => ∃ cs', ρ'[0]? = some (.mut q cs') ∧ R (.error e) cs' }) : FnV P w K mg base (k + 1) x (mutS A) :=
  fn_mutC mo Fu Sc hb hm hlen fun cdv _ A' outer s H E => hbody cdv A' outer s H E
end

/-! ### errors raised -/
section
variable {X : Cx} {e : Expr} {ρ ρ1 : Lo} {d : D} {pos p : Pos} {x f : Str} {C fI : Addr} {W : WE} {rest : List Stmt} {k : Nat}
/-- what the written part says of an own error class without __init__ -/
structure Xc (X : Cx) (x : Str) (C : Addr) : Prop where
  g : X.mg x = some (.ref C)
  q : PySem.W.excIn X.K C [.type "ValueError", .type "Exception", .type "BaseException", .type "object"] "ValueError.__new__" = true
  kp : PySem.W.keepIn X.K (.ref C) = true
  exC : PySem.W.subIn X.K (.ref C) (.type "BaseException") = some true
  tyC : PySem.W.typeIn X.K (.ref C) = some (.type "type")
theorem pmk_own0 (T : Xc X x C) (hg : Gl X x) (hdb : (x == ("__debug__" : Str)) = false := by decide) : L2N.PMk X (.Call (.Name x p) [] [] pos) (fun _ H Q => Q (.ref C) none H) := by
  intro pins s σ H Q I h
  refine wpAny_Call_Name_kw (ld_glob I hg T.g ?_ hdb)
  refine PySem.W.callWith_K0 I.kIn T.kp ?_
  show wpAny _ _ (call (.ref C) []) _ _ _
  obtain ⟨bm, N, nm, qn, bs, hdct, sn, sub, ab, col, dd, k0, k1, k2, k3, k5, mN, hC, hN, hni, T'⟩ := exc_obj I.kIn T.q
  refine wpAny_call_exc_subT PySem.F.excBase_ValueError T' hC hN hni (fun h' e hm => ?_) (Nat.zero_le _)
  exact L2N.mk_of I hm (raises_own T.exC T.tyC) h (I.hok.gone hm.new)
theorem css_raise0 {rp : Pos} (B : Bd X) (T : Xc X x C) (h : W.er ⟨C, []⟩ ρ) (hg : Gl X x := by rfl) (hdb : (x == ("__debug__" : Str)) = false := by decide) : CSs X ρ (.Raise (some (.Call (.Name x p) [] [] pos)) none rp :: rest) W := by
  refine css_cons fun F O σ H E I r pins s J => ?_
  obtain ⟨Wx, t, q⟩ := r.er
  exact (L2N.ps_raise B.calm t (pmk_own0 T hg hdb)).run pins s σ H E J (q _ ρ σ H _ _ h I ⟨rfl, .inl ⟨rfl, rfl⟩⟩)
/-- of one whose __init__ stores its one argument in the field f -/
def spInit (K : PySem.W.Frag) (f : Str) : Sp := fun vs H Q E => ∃ a C v, vs = [.ref a, v] ∧ OexC K C ∧ PySem.W.findIn K (.ref C) f = some none ∧ H a = some (exo a C none) ∧ ∀ dx, H dx = none → dx ≠ a → Q .non (upd (upd H dx (exd dx [(f, v)])) a (exo a C (some dx)))
structure Xi (X : Cx) (x f : Str) (C : Addr) : Prop where
  g : X.mg x = some (.ref C)
  o : OexC X.K C
  nf : PySem.W.findIn X.K (.ref C) f = some none
  ex : ∃ fI fd ps, PySem.W.findIn X.K (.ref C) "__init__" = some (some (.ref fI)) ∧ PySem.W.typeIn X.K (.ref fI) = some (.type "function") ∧ FnOk X.prog X.w X.K X.mg X.base (L2N.CX X.prog X.w) 1 fI fd ps (spInit X.K f) ∧ Binds X.K fd ps []
theorem css_raise1 {rp : Pos} (B : Bd X) (T : Xi X x f C) (hr : Room 2 X.A) (he : CE X ρ e d ρ1) (h : W.er ⟨C, [(f, d)]⟩ ρ1) (hg : Gl X x := by rfl) (hdb : (x == ("__debug__" : Str)) = false := by decide)
    (hs : starEach (e :: []) X.env = (false, eval e X.env) :: starEach [] X.env := by rfl) (hpl : (backTo pos (starEach [] X.env)).any (·.1) = false := by rfl) : CSs X ρ (.Raise (some (.Call (.Name x p) [e] [] pos)) none rp :: rest) W := by
  refine css_cons fun F O σ H E I r pins s J => ?_
  obtain ⟨Wx, t, q⟩ := r.er
  obtain ⟨fI, fd, ps, h1, h2, h3, h4⟩ := T.ex
  refine (L2N.ps_raise B.calm t (pmk_oexN T.o h1 h2 h3 hr h4 .nil passLN hg T.g pa_tw hdb hs hpl)).run pins s σ H E J ?_
  refine (d_cons he d_nil hs).2 F O σ H _ I fun vs H1 L rs => ?_
  obtain ⟨v, rfl, rv⟩ := one_of rs
  refine ⟨(show 1 ≤ 1000 from by decide), fun a ha => ?_⟩
  refine ⟨a, C, v, rfl, T.o, T.nf, upd_same, fun dx hdx hne => ⟨rfl, dx, [(f, v)], upd_same, ?_, ?_, ?_⟩⟩
  · rw [upd_ne hne, upd_same]
  · rw [upd_ne hne] at hdx
    exact hdx
  · have hdx' : H1 dx = none := by
      rw [upd_ne hne] at hdx
      exact hdx
    have eh : upd (L2.del (upd (upd (upd H1 a (exo a C none)) dx (exd dx [(f, v)])) a (exo a C (some dx))) a) dx (.xd [(f, v)]) = upd H1 dx (.xd [(f, v)]) := by
      funext b
      by_cases e1 : b = dx
      · subst e1
        rw [upd_same, upd_same]
      · rw [upd_ne e1, upd_ne e1]
        by_cases e2 : b = a
        · subst e2
          rw [L2.del_same, ha]
        · rw [L2.del_ne e2, upd_ne e2, upd_ne e1, upd_ne e2]
    rw [eh]
    exact q _ ρ1 σ _ _ _ h (L.new hdx') ⟨rfl, .inr ⟨dx, [(f, v)], rfl, L.newHid hdx', .cons (rv.mono (ex_new hdx')) .nil⟩⟩
end
/-- such an __init__ -/
theorem ok_init {P : Program} {w : World} {K : PySem.W.Frag} {mg : Str → Option Value} {base : Heap} {qual f g : Str} {st : Stmt} {fI : Addr} {fd : FuncData} (Fu : Fun K "__init__" qual st fI fd) (Sc : FnScope ([("self" : Str), g] : List Str) ([("self" : Str), g] : List Str) (defScope st))
    (hbody : ∀ X : Cx, X.N = [("self" : Str), g] → X.env.scope = defScope st → PSs X (defBody st) (tOst X.K f (tVar 0) (tVar 1))) : FnOk P w K mg base (L2N.CX P w) 1 fI fd [("self" : Str), g] (spInit K f) := by
  refine Fun.okXN Fu Sc (fun vs H Q E h => ?_) (fun cdv A' outer s H vs Q E hr h => ⟨_, hbody _ rfl rfl, ?_⟩)
  · obtain ⟨a, C, v, rfl, _⟩ := h
    rfl
  · obtain ⟨a, C, v, rfl, h1, h2, h3, h4⟩ := h
    exact ⟨v, rfl, .ref a, rfl, a, C, rfl, h1, h2, .inl ⟨h3, fun dx n ne => h4 dx n ne⟩⟩
end VL
end

section
set_option Elab.async false
set_option linter.all false
set_option maxRecDepth 100000
set_option maxHeartbeats 4000000
namespace VL
open PySem PySem.Spec PyProof.Rows L2
open AutoSeq1 (wpAny_loadPart')

/-! ### enumerate of a tuple -/
theorem meets_enumerate_newT (l : Addr) (items : Array Value) :
    Meets (Builtin.«enumerate.__new__» ⟨[.type "enumerate", .ref l], []⟩) (fun _ R s => s.heap.IsTuple l items ∧
      R (.ok (.ret (.ref (s.heap.push { cls := .type "tuple_iterator", data := .fields #[.ref l, .int 0 0] }).objs.size)))
        { s with heap := (s.heap.push { cls := .type "tuple_iterator", data := .fields #[.ref l, .int 0 0] }).push { cls := .type "enumerate", data := .fields #[.none, .bool false, .ref s.heap.objs.size, rawInt 0, .none, .none] } }) :=
  .of_wp fun prog w A R s h => by
    obtain ⟨hp, g, d, tk, os⟩ := s; obtain ⟨hl, h⟩ := h
    have hsub := sub_enumerate
    have hL : Heap.IsTuple (Shared.heap ⟨hp, g, d, tk, os⟩) l items := hl
    wp_walk using wpAny_pyIter_tuple hL
    refine wpAny_stack_any fun st => wpAny_pure ?_
    split
    · rename_i c _ _ _ _ _
      cases (c == Value.type "enumerate")
      · wp_walk using wpAny_pyIter_tuple hL
        exact ⟨_, rfl, h⟩
      · wp_walk using wpAny_pyIter_tuple hL
        exact ⟨_, rfl, h⟩
    · wp_walk using wpAny_pyIter_tuple hL
      exact ⟨_, rfl, h⟩
section
variable {prog : Program} {w : World} {A : Around} {E : Value → Shared → Prop} {s : Shared}
theorem call_enumerate_tuple {l : Addr} {items : Array Value} {Q : Value → Shared → Prop} (hL : s.heap.IsTuple l items)
    (h : ∀ h', IsEnum h' (s.heap.objs.size + 1) s.heap.objs.size 0 .none → h'.IsTupleIter s.heap.objs.size l 0 → h'.objs.size = s.heap.objs.size + 2 →
      (∀ b o, s.heap.get? b = some o → h'.get? b = some o) → Q (.ref (s.heap.objs.size + 1)) { s with heap := h' }) :
    wpAny (model prog w) A (call (.type "enumerate") [.ref l]) Q E s := by
  refine callType_new F.called_enumerate (by decide) (F.typeCall_enumerate_1 _) (F.newCall_enumerate_1 _) (fun obj => F.args_object_init_2 obj _) F.entry_enumerate_new
    (meets_enumerate_newT l items) ⟨hL, ?_⟩
  have hz : (s.heap.push { cls := .type "tuple_iterator", data := .fields #[.ref l, .int 0 0] }).objs.size = s.heap.objs.size + 1 := Heap.size_push ..
  show _ ∧ _
  rw [hz]
  have he : IsEnum ((s.heap.push { cls := .type "tuple_iterator", data := .fields #[.ref l, .int 0 0] }).push
      { cls := .type "enumerate", data := .fields #[.none, .bool false, .ref s.heap.objs.size, rawInt 0, .none, .none] }) (s.heap.objs.size + 1) s.heap.objs.size 0 .none := by
    have := Heap.get?_push_size (s.heap.push { cls := .type "tuple_iterator", data := .fields #[.ref l, .int 0 0] })
      (o := { cls := .type "enumerate", data := .fields #[.none, .bool false, .ref s.heap.objs.size, rawInt 0, .none, .none] }) rfl
    rw [hz] at this; exact this
  refine ⟨⟨_, he, rfl⟩, h _ he ⟨_, Heap.get?_push_of_some _ (Heap.get?_push_size _ rfl), rfl, rfl⟩ (by rw [Heap.size_push, hz]) fun b o x => Heap.get?_push_of_some _ (Heap.get?_push_of_some _ x)⟩
theorem draws_tuple (hh : A.handled = none) (it l : Addr) (hne : l ≠ it) (items : Array Value) :
    Draws prog w A it [it, l] items.size (fun i v => items[i]? = some v) (fun i h => h.IsTupleIter it l i ∧ h.IsTuple l items) where
  live := fun _ _ st => let ⟨o, ho, _⟩ := st.1; ⟨o, ho⟩
  frame := fun _ _ _ st hk => ⟨st.1.at fun o e => hk it (by simp) o e, st.2.at fun o e => hk l (by simp) o e⟩
  item := fun i s Q E hi st hQ => by
    refine RZ.nextOf_tuple_item st.1 st.2 (x := items[i]) (by simp [hi]) fun h' hit' hs' => ?_
    exact hQ _ h' s.toks (by simp [hi]) ⟨hit', st.2.at fun o e => hs'.extBut l o hne e⟩ hs'
  done := fun s Q E st hE => RZ.nextOf_tuple_end hh st.1 st.2 (by simp) hE
end
/-- the tuple at a as it stands, number and item in new pairs -/
def IteT (K : PySem.W.Frag) (a : Addr) : It :=
  ⟨fun i H => ∃ (xs : List V) (x : V), SqT K H a xs ∧ xs[i]? = some x, fun i H v H' => ∃ T x, v = .ref T ∧ H T = none ∧ H' = upd H T (.tup [.int (i : Nat), x]) ∧ ∀ xs, SqT K H a xs → xs[i]? = some x, fun i H => ∃ xs : List V, SqT K H a xs ∧ xs.length ≤ i⟩
theorem turn_enumT {P : Program} {w : World} {K : PySem.W.Frag} {elts : List Expr} {kk : Nat} {tpos : Pos} (a e it : Addr) :
    Turn P w K (.Tuple elts kk tpos) (IteT K a) [e, it] e (fun i h => (∃ old, IsEnum h e it ((i : Nat) : Int) old) ∧ h.IsTupleIter it a i ∧ e ≠ it ∧ a ≠ it ∧ a ≠ e) where
  mem := by simp
  obj := fun i h st b hb => by
    obtain ⟨⟨old, he⟩, ⟨o, ho, hc, hd⟩, _⟩ := st
    have e' : b = e ∨ b = it := by simpa using hb
    rcases e' with z | z
    · rw [z]; exact ⟨_, he, fun v q => by cases q⟩
    · rw [z]; exact ⟨o, ho, fun v q => by rw [hd] at q; cases q⟩
  keep := fun i h h' st k => let ⟨⟨old, he⟩, hi, hne⟩ := st; ⟨⟨old, k e (by simp) _ he⟩, hi.at fun o q => k it (by simp) o q, hne⟩
  item := by
    intro X hP hw hK hc i pins s σ H E I hf st hg
    subst hP hw hK
    obtain ⟨⟨old, he⟩, hit, hne, hai, hae⟩ := st
    obtain ⟨xs, x, hq, hx⟩ := hg
    obtain ⟨its, rv, p, hz⟩ := I.tuple hq
    obtain ⟨u, hu, ru⟩ := rv.get hx
    have hel : e < s.heap.objs.size := Heap.lt_size he
    have hil : it < s.heap.objs.size := by obtain ⟨_, q, _⟩ := hit; exact Heap.lt_size q
    have hlt : i < its.toArray.size := by rw [List.size_toArray]; exact (List.getElem?_eq_some_iff.mp hu).1
    have Dr := draws_tuple (prog := X.prog) (w := X.w) (A := X.A.in1) (I.ok.hd hc) it a hai its.toArray
    refine wpAny_pyNext_enum_itemD Dr he ⟨hit, (show s.heap.IsTuple a its.toArray from p)⟩ hlt hne (by simp; exact ⟨hne, fun z => hae z.symm⟩) fun y h' tk hP ho hs' hT hsz hk => ?_
    have hy : y = u := by
      have q : its.toArray[i]? = some y := hP
      rw [List.getElem?_toArray, hu] at q
      exact (Option.some.inj q).symm
    subst hy
    refine ⟨_, rfl, wpAny_letOwnedTupleGo_enum (s := { s with heap := h', toks := tk + 1 }) ho fun h'' he' sb => ?_⟩
    have hT2 : h''.get? s.heap.objs.size = some { cls := .type "tuple", data := .seq #[.int i tk, y] } := (sb.2 _ (Nat.ne_of_gt hel)).trans hT
    have new : ObjOk X.prog X.w (upd H s.heap.objs.size (.tup [.int (i : Nat), x])) h'' s.heap.objs.size (.tup [.int (i : Nat), x]) :=
      ⟨by show 2 ≤ sizeLine; decide, [.int i tk, y], .cons ⟨_, rfl⟩ (.cons ru .nil), ⟨_, hT2, rfl, _, rfl⟩⟩
    have I1 : Inv X pins σ (upd H s.heap.objs.size (.tup [.int (i : Nat), x])) { s with heap := h'', toks := tk + 1 } :=
      I.turnedNew (ch := [e, it]) (fun b ob hb q => (sb.2 b (fun z => hb (by simp [z]))).trans (hk b ob (fun z => hb (by simp [z])) (fun z => hb (by simp [z])) q)) hf (Nat.le_refl _) new
    refine ⟨.ref s.heap.objs.size, _, I1, rfl, ⟨_, x, rfl, I.hok.fresh (Nat.le_refl _), rfl, fun ys hy => by rw [I.tuple_inj hy hq]; exact hx⟩, ⟨⟨y, ?_⟩, hs'.1.at fun o q => (sb.2 it (Ne.symm hne)).trans q, hne, hai, hae⟩, fun b hb => ?_⟩
    · have e1 : ((i + 1 : Nat) : Int) = (i : Int) + 1 := by omega
      rw [e1]; exact he'
    · have hb' : b < s.heap.objs.size := by
        have e' : b = e ∨ b = it := by simpa using hb
        rcases e' with z | z
        · rw [z]; exact hel
        · rw [z]; exact hil
      rw [upd_ne (Nat.ne_of_lt hb')]
      exact (hf b hb).1
  done := by
    intro X hP hw hK hc i pins s σ H E I hf st hg
    subst hP hw hK
    obtain ⟨⟨old, he⟩, hit, hne, hai, hae⟩ := st
    obtain ⟨xs, hq, hx⟩ := hg
    obtain ⟨its, rv, p, hz⟩ := I.tuple hq
    obtain ⟨f0, f1, f2, f3, f4, f5⟩ := hf it (by simp)
    have hl := rv.length
    unfold pyNext
    have hT : s.TypeIs (.ref e) "enumerate" := ⟨_, he, rfl⟩
    refine wpAny_bind (wpAny_attempt (wpAny_callSpecial?_slot (name := Str.ofString "__next__") hT F.slot_enumerate_next
      (wpAny_call_entry F.slot_enumerate_next hT F.entry_enumerate_next ?_ (F.args_enumerate_next_1 _))))
    show wpAny _ _ (field (.ref e) 2 >>= _) _ _ _
    refine wpAny_bind (wpAny_field he rfl (x := .ref it) rfl ?_)
    refine wpAny_bind (RZ.nextOf_tuple_end (A := X.A.in1) (I.ok.hd hc) hit (show s.heap.IsTuple a its.toArray from p) (by rw [List.getElem?_toArray]; exact List.getElem?_eq_none (by omega)) fun h' x he' hx' => ?_)
    obtain ⟨o, ho, hc⟩ := hx'
    refine wpAny_bind (wpAny_isInstance (T := "StopIteration") (b := true) ⟨o, ho, hc⟩ isSubtype_stop ?_)
    exact wpAny_pure ⟨rfl, I.turned (t' := s.toks) (fun b o hb q => he' b o hb q) f0 f1 f3 f4 f5⟩
  self := fun A i s Q E st h => let ⟨⟨_, he⟩, _⟩ := st; wpAny_pyIter_enum he h
def iEnumT (K : PySem.W.Frag) (ta : TA) : TI := fun σ H R => ta σ H fun vs H1 => ∃ a xs, vs = [.ref a] ∧ SqT K H1 a xs ∧ R (IteT K a) H1
theorem pi_enumT {X : Cx} {e : Expr} {ta : TA} {p pos tpos : Pos} {elts : List Expr} {kk : Nat} (hg : Gl X "enumerate") (hm : X.mg "enumerate" = none) (ha : PA X [e] ta) (hs : starEach [e] X.env = [(false, eval e X.env)] := by rfl) :
    PI X (.Tuple elts kk tpos) (.Call (.Name "enumerate" p) [e] [] pos) (iEnumT X.K ta) := by
  refine ⟨fun pins s σ H R I h => ?_⟩
  refine Call_ (ld_blt I hg hm boot_enumerate (PyProof.Rows.callWith_type1 (thn (ha.run pos pins s σ H _ I h) fun us s1 ⟨vs, H1, I1, r1, q1⟩ => ?_) hs rfl))
  obtain ⟨a, xs, ex, hq, q⟩ := q1
  subst ex
  cases r1 with
  | cons r rr =>
    cases rr
    cases r
    obtain ⟨its, rv, p', hz⟩ := I1.tuple hq
    have hlt := p'.lt
    refine call_enumerate_tuple (show s1.heap.IsTuple a its.toArray from p') fun h' he hit hsz hk => wpAny_pyIter_enum he ?_
    have I2 : Inv X pins σ H1 { s1 with heap := h' } := I1.kept (t' := s1.toks) hk
    refine ⟨s1.heap.objs.size + 1, [s1.heap.objs.size + 1, s1.heap.objs.size], _, _, H1, rfl, I2, turn_enumT a (s1.heap.objs.size + 1) s1.heap.objs.size, ⟨⟨.none, he⟩, hit, Nat.succ_ne_self _, Nat.ne_of_lt hlt, Nat.ne_of_lt (Nat.lt_succ_of_lt hlt)⟩, fun b hb => ?_, q⟩
    have e' : b = s1.heap.objs.size + 1 ∨ b = s1.heap.objs.size := by simpa using hb
    have hle : s1.heap.objs.size ≤ b := by
      rcases e' with z | z
      · rw [z]; exact Nat.le_add_right _ _
      · rw [z]; exact Nat.le_refl _
    exact I1.fpOk hle (I1.hok.fresh hle)
end VL
end

section
set_option Elab.async false
set_option linter.all false
set_option maxRecDepth 100000
set_option maxHeartbeats 4000000
namespace VL
open PySem PySem.Spec PyProof.Rows L2
theorem walk_enumT {K : PySem.W.Frag} {a : Addr} {xs : List V} : Walk (IteT K a) xs.length (fun H => SqT K H a xs) (YPair (fun i => some (.int (i : Nat))) (fun i => xs[i]?)) :=
  ⟨fun i H hi h => ⟨xs, xs[i], h, by simp [hi]⟩, fun H h => ⟨xs, h, Nat.le_refl _⟩, fun i H x H' hi h ⟨T, y, e1, e2, e3, e4⟩ => ⟨T, _, y, e1, e2, e3, rfl, e4 xs h⟩⟩
theorem walk_zipT {K : PySem.W.Frag} {a b : Addr} {xs ys : List V} {n : Nat} (hn : n = min xs.length ys.length) : Walk (RZ.ItzT K a b) n (fun H => SqT K H a xs ∧ SqT K H b ys) (YPair (fun i => xs[i]?) (fun i => ys[i]?)) := by
  subst hn
  exact ⟨fun i H hi h => ⟨xs, ys, xs[i]'(by omega), ys[i]'(by omega), h.1, h.2, by simp, by simp⟩, fun H h => ⟨xs, ys, h.1, h.2, by omega⟩,
    fun i H x H' hi h ⟨T, y, z, e1, e2, e3, e4, e5⟩ => ⟨T, y, z, e1, e2, e3, e4 xs h.1, e5 ys h.2⟩⟩
section
variable {X : Cx} {e a b c tg : Expr} {es : List Expr} {ρ ρ1 ρ2 ρ3 ρ' : Lo} {x y d : D} {pos p p2 : Pos} {F F' : Hp} {O : Addr → Prop} {σ : L2.St} {H H' S T : Hp} {i j : Nat} {n m : Str} {ds es' : List D} {q : Addr} {K : PySem.W.Frag}
theorem ci_enumT {xs : List D} {elts : List Expr} {kk : Nat} {tpos : Pos} (hm : X.mg "enumerate" = none) (ha : CE X ρ a (.tup xs) ρ1) (hg : Gl X "enumerate" := by rfl)
    (hs : starEach [a] X.env = [(false, eval a X.env)] := by rfl) (he : starEach [a] X.env = (false, eval a X.env) :: starEach [] X.env := by rfl) : CI X ρ (.Tuple elts kk tpos) (.Call (.Name "enumerate" p) [a] [] pos) (enumD xs) ρ1 :=
  ⟨_, pi_enumT hg hm pa_tw hs, ha.1, fun F O σ H R I k => (d_cons ha d_nil he).2 F O σ H _ I fun vs H1 J r => by
    obtain ⟨v, rfl, ru⟩ := one_of r
    cases ru with
    | @tup a1 vs1 _ h1 r1 =>
      refine ⟨a1, vs1, rfl, hid_ex.t h1, k _ H1 J ?_⟩
      refine WK.of (walk_enumT (K := X.K) (a := a1) (xs := vs1)) (by rw [enumD_len, r1.length]) (fun H' h => h.t ((T_S ρ1 H1).t h1)) fun i H' v H'' hi h y => ?_
      obtain ⟨t, u1, u2, rfl, ht, rfl, e1, e2⟩ := y
      cases e1
      obtain ⟨d2, q3, q4⟩ := r1.get' e2
      exact ⟨_, enumD_get q3, .inr ⟨t, _, _, ht, rfl, rfl, rfl, .cons (.int _) (.cons q4 .nil)⟩⟩⟩
theorem ci_zipT {xs ys : List D} {elts : List Expr} {kk : Nat} {tpos : Pos} (hm : X.mg "zip" = none) (ha : CE X ρ a (.tup xs) ρ1) (hb : CE X ρ1 b (.tup ys) ρ2) (hg : Gl X "zip" := by rfl)
    (hs : starEach [a, b] X.env = (false, eval a X.env) :: starEach [b] X.env := by rfl) (hpl : (backTo pos (starEach [b] X.env)).any (·.1) = false := by rfl)
    (he2 : starEach [b] X.env = (false, eval b X.env) :: starEach [] X.env := by rfl) : CI X ρ (.Tuple elts kk tpos) (.Call (.Name "zip" p) [a, b] [] pos) (zipD xs ys) ρ2 :=
  ⟨_, RZ.pi_zipA hg hm pa_tw hs hpl, hb.1.trans ha.1, fun F O σ H R I k => (d_cons ha (d_cons hb d_nil he2) hs).2 F O σ H _ I fun vs H1 J r => by
    obtain ⟨v, w, rfl, ru, rw'⟩ := two_of r
    cases ru with
    | @tup a1 vs1 _ h1 r1 =>
      cases rw' with
      | @tup a2 vs2 _ h2 r2 =>
        refine ⟨a1, a2, vs1, vs2, rfl, .inr ⟨hid_ex.t h1, hid_ex.t h2, k _ H1 J ?_⟩⟩
        refine WK.of (walk_zipT (K := X.K) (a := a1) (b := a2) (xs := vs1) (ys := vs2) rfl) (by unfold zipD; rw [List.length_zipWith, r1.length, r2.length]) (fun H' h => ⟨h.t ((T_S ρ2 H1).t h1), h.t ((T_S ρ2 H1).t h2)⟩) fun i H' v H'' hi h y => ?_
        obtain ⟨t, u1, u2, rfl, ht, rfl, e1, e2⟩ := y
        obtain ⟨d1, q1, q2⟩ := r1.get' e1
        obtain ⟨d2, q3, q4⟩ := r2.get' e2
        exact ⟨_, zipD_get q1 q3, .inr ⟨t, _, _, ht, rfl, rfl, rfl, .cons q2 (.cons q4 .nil)⟩⟩⟩

/-! ### isinstance -/
def tyD : D → String
  | .non => "NoneType"
  | .bl _ => "bool"
  | .int _ => "int"
  | .str _ => "str"
  | .tup _ => "tuple"
  | .lst _ => "list"
  | .frl _ => "list"
  | .dic _ => "dict"
  | _ => ""
/-- plain data -/
def plD : D → Bool
  | .ty _ => false
  | .adr _ => false
  | .ins _ _ => false
  | .exc _ _ _ => false
  | _ => true
theorem Rep.tyx {v : V} (r : Rep K H v d) (h : plD d = true) : TyX K H v (.type (tyD d)) := by
  cases r with
  | non => exact .base .non
  | bl b => exact .base (.bl b)
  | int i => exact .base (.int i)
  | str x => exact .base (.str x)
  | ty n => cases h
  | adr a => cases h
  | tup q _ =>
    rcases q with (q | ⟨o, q⟩) | ⟨o, its, n, h1, h2, _⟩
    · exact .base (.tup q)
    · exact .fTuple q
    · exact .kTuple h1 h2
  | lst q _ => exact .base (.lst q)
  | frl q _ =>
    rcases q with (q | ⟨o, q⟩) | ⟨o, its, n, h1, h2, _⟩
    · exact .base (.lst q)
    · exact .base (.frz q)
    · exact .kList h1 h2
  | dic q _ => exact .base (.dK q)
  | ins q _ => cases h
  | exc q _ => cases h
theorem TyX.mono {v : V} {t : Value} (e : Ex H H') (h : TyX K H v t) : TyX K H' v t := by
  cases h with
  | base h =>
    cases h with
    | non => exact .base .non
    | bl b => exact .base (.bl b)
    | int i => exact .base (.int i)
    | str x => exact .base (.str x)
    | flt x => exact .base (.flt x)
    | lst h => exact .base (.lst (e _ _ h))
    | frz h => exact .base (.frz (e _ _ h))
    | tup h => exact .base (.tup (e _ _ h))
    | dK h => exact .base (.dK (e _ _ h))
    | dT h => exact .base (.dT (e _ _ h))
    | ins h a b c d f => exact .base (.ins (e _ _ h) a b c d f)
  | byt b => exact .byt b
  | set h => exact .set (e _ _ h)
  | kList a b => exact .kList a b
  | kTuple a b => exact .kTuple a b
  | kDict a b => exact .kDict a b
  | fTuple h => exact .fTuple (e _ _ h)
  | fDict h => exact .fDict (e _ _ h)
/-- the classes asked for here -/
def isT (n : String) (d : D) : Bool := decide (tyD d = n) || (decide (n = "int") && decide (tyD d = "bool"))
def knownT (n : String) : Bool := ["int", "bool", "str", "tuple", "list", "dict"].contains n
theorem kit_D (h : plD d = true) (n : String) (hn : knownT n = true) : PySem.W.kitOne K (.type (tyD d)) (.type n) = some (isT n d) := by
  have hn' : n = "int" ∨ n = "bool" ∨ n = "str" ∨ n = "tuple" ∨ n = "list" ∨ n = "dict" := by
    unfold knownT at hn
    simp at hn
    exact hn
  rcases hn' with rfl | rfl | rfl | rfl | rfl | rfl <;> (cases d <;> first | rfl | cases h)
theorem c_isi {T : String} (hm : X.mg "isinstance" = none) (ha : CE X ρ a d ρ1) (hb : CE X ρ1 b (.ty T) ρ2) (hd : plD d = true) (hT : knownT T = true) (hg : Gl X "isinstance" := by rfl)
    (hs : starEach [a, b] X.env = (false, eval a X.env) :: starEach [b] X.env := by rfl) (hpl : (backTo pos (starEach [b] X.env)).any (·.1) = false := by rfl)
    (he2 : starEach [b] X.env = (false, eval b X.env) :: starEach [] X.env := by rfl) : CE X ρ (.Call (.Name "isinstance" p) [a, b] [] pos) (.bl (isT T d)) ρ2 :=
  c_blt call_isi (fun F O ρ σ H vs Q I r q => by
    obtain ⟨v, w, rfl, r1, r2⟩ := two_of r
    cases r2
    exact ⟨v, .ty T, _, _, _, rfl, .ty T, (r1.mono hid_ex).tyx hd, kit_D hd T hT, q _ _ I (.bl _)⟩) hm (by decide +kernel) (d_cons ha (d_cons hb d_nil he2) hs) hg (he := hs) (hpl := hpl)
/-- isinstance(x, (T, U)) -/
theorem c_isi2 {T U : String} {tpos : Pos} {kk : Nat} (hm : X.mg "isinstance" = none) (ha : CE X ρ a d ρ1) (hb : CE X ρ1 b (.ty T) ρ1) (hc : CE X ρ1 c (.ty U) ρ1) (hd : plD d = true) (hT : knownT T = true) (hU : knownT U = true) (hg : Gl X "isinstance" := by rfl)
    (hs : starEach [a, .Tuple [b, c] kk tpos] X.env = (false, eval a X.env) :: starEach [.Tuple [b, c] kk tpos] X.env := by rfl) (hpl : (backTo pos (starEach [.Tuple [b, c] kk tpos] X.env)).any (·.1) = false := by rfl)
    (he2 : starEach [.Tuple [b, c] kk tpos] X.env = (false, eval (.Tuple [b, c] kk tpos) X.env) :: starEach [] X.env := by rfl)
    (he3 : starEach [b, c] X.env = (false, eval b X.env) :: starEach [c] X.env := by rfl) (he4 : starEach [c] X.env = (false, eval c X.env) :: starEach [] X.env := by rfl) :
    CE X ρ (.Call (.Name "isinstance" p) [a, .Tuple [b, c] kk tpos] [] pos) (.bl (isT T d || isT U d)) ρ1 :=
  .of (pe_callB call_isiT hg hm (by decide +kernel) (pa_cons pe_tw (pa_cons (pe_tup (pa_cons pe_tw (pa_cons pe_tw pa_nil he4) he3)) pa_nil he2) hs) (by decide) (by decide) hs hpl) ⟨ha.1, fun F O σ H Q I q => by
    refine ha.2 F O σ H _ I fun v H1 J r => hb.2 _ O σ H1 _ J.sup fun w H2 L r2 => hc.2 _ O σ H2 _ L.sup fun u H3 M r3 => ⟨(show 2 ≤ sizeLine by decide), fun t ht => ?_⟩
    cases r2
    cases r3
    have M' := (M.weak L.le_sup L.od).weak J.le_sup J.od
    have r' : Rep X.K (hid (UU O ρ1) H3) v d := SOk.keep rfl M (SOk.keep rfl L r)
    have kt : PySem.W.kitAny X.K (.type (tyD d)) [.type T, .type U] = some (isT T d || isT U d) := by
      unfold PySem.W.kitAny
      rw [kit_D hd T hT]
      cases isT T d with
      | true => rfl
      | false =>
        unfold PySem.W.kitAny
        rw [kit_D hd U hU]
        cases isT U d with
        | true => rfl
        | false => rfl
    have M2 := M'.new (o := .tup [.ty T, .ty U]) ht
    exact ⟨v, t, _, _, _, _, rfl, upd_same, .cons (.ty T) (.cons (.ty U) .nil), TyX.mono (fun a o h => by rw [upd_ne (ne_of_none h ht)]; exact h) ((r'.mono hid_ex).tyx hd), kt, q _ _ M2 (.bl _)⟩⟩

/-! ### == at any depth -/
mutual
def pyd : D → PyData
  | .non => .none
  | .bl b => .bool b
  | .int i => .int i
  | .str x => .str x
  | .tup l => .tuple (pyds l)
  | .lst l => .list (pyds l)
  | _ => .dict []
def pyds : List D → List PyData
  | [] => []
  | d :: l => pyd d :: pyds l
end
mutual
/-- what == reads -/
def eqD : D → Bool
  | .non => true
  | .bl _ => true
  | .int _ => true
  | .str _ => true
  | .tup l => eqDs l
  | .lst l => eqDs l
  | _ => false
def eqDs : List D → Bool
  | [] => true
  | d :: l => eqD d && eqDs l
end
mutual
theorem Rep.dp : ∀ (d : D) (v : V), eqD d = true → Rep K H v d → Dp K H v (pyd d)
  | .non, _, _, r => by cases r; exact .non
  | .bl b, _, _, r => by cases r; exact .bl b
  | .int i, _, _, r => by cases r; exact .int i
  | .str x, _, _, r => by cases r; exact .str x
  | .tup l, _, h, r => by cases r with | tup q r => exact .tup q (Reps.dp l _ h r)
  | .lst l, _, h, r => by cases r with | lst q r => exact .lst (.of q) (Reps.dp l _ h r)
  | .frl _, _, h, _ => Bool.noConfusion (show false = true from h)
  | .dic _, _, h, _ => Bool.noConfusion (show false = true from h)
  | .ty _, _, h, _ => Bool.noConfusion (show false = true from h)
  | .adr _, _, h, _ => Bool.noConfusion (show false = true from h)
  | .ins _ _, _, h, _ => Bool.noConfusion (show false = true from h)
theorem Reps.dp : ∀ (d : List D) (v : List V), eqDs d = true → Reps K H v d → DpAll K H v (pyds d)
  | [], _, _, r => by cases r; exact .nil
  | d :: l, _, h, r => by
    cases r with
    | cons q r =>
      have h' : (eqD d && eqDs l) = true := h
      rw [Bool.and_eq_true] at h'
      exact .cons (Rep.dp d _ h'.1 q) (Reps.dp l _ h'.2 r)
end
theorem opd_eqD (hx : eqD x = true) (hy : eqD y = true) (sx : SeqAt.shaped (pyd x) = true) (sy : SeqAt.shaped (pyd y) = true) : OpD K (rEqD K) x y (.bl (PyData.eqv (pyd x) (pyd y))) := fun F O ρ σ H v w Q I r1 r2 q =>
  ⟨_, _, Rep.dp _ _ hx (r1.mono hid_ex), Rep.dp _ _ hy (r2.mono hid_ex), sx, sy, q _ _ I (.bl _)⟩
theorem opd_neD (hx : eqD x = true) (hy : eqD y = true) (sx : SeqAt.shaped (pyd x) = true) (sy : SeqAt.shaped (pyd y) = true) : OpD K (rNeD K) x y (.bl (!PyData.eqv (pyd x) (pyd y))) := fun F O ρ σ H v w Q I r1 r2 q =>
  ⟨_, _, Rep.dp _ _ hx (r1.mono hid_ex), Rep.dp _ _ hy (r2.mono hid_ex), sx, sy, q _ _ I (.bl _)⟩
theorem c_eqD (hu : X.A.units + 64 < cLine) (ha : CE X ρ a x ρ1) (hb : CE X ρ1 b y ρ2) (hx : eqD x = true) (hy : eqD y = true) (sx : SeqAt.shaped (pyd x) = true) (sy : SeqAt.shaped (pyd y) = true) : CE X ρ (.Compare a [.Eq] [b] pos) (.bl (PyData.eqv (pyd x) (pyd y))) ρ2 := c_cmp (op_eqD hu) (opd_eqD hx hy sx sy) ha hb (nomark _)
theorem c_neD (hu : X.A.units + 64 < cLine) (ha : CE X ρ a x ρ1) (hb : CE X ρ1 b y ρ2) (hx : eqD x = true) (hy : eqD y = true) (sx : SeqAt.shaped (pyd x) = true) (sy : SeqAt.shaped (pyd y) = true) : CE X ρ (.Compare a [.NotEq] [b] pos) (.bl (!PyData.eqv (pyd x) (pyd y))) ρ2 := c_cmp (op_neD hu) (opd_neD hx hy sx sy) ha hb (nomark _)
theorem t_eqD (hu : X.A.units + 64 < cLine) (ha : CE X ρ a x ρ1) (hb : CE X ρ1 b y ρ2) (hx : eqD x = true) (hy : eqD y = true) (sx : SeqAt.shaped (pyd x) = true) (sy : SeqAt.shaped (pyd y) = true) : CT X ρ (.Compare a [.Eq] [b] pos) (PyData.eqv (pyd x) (pyd y)) ρ2 := t_cmp (op_eqD hu) (opd_eqD hx hy sx sy) ha hb (nomark _)
theorem t_neD (hu : X.A.units + 64 < cLine) (ha : CE X ρ a x ρ1) (hb : CE X ρ1 b y ρ2) (hx : eqD x = true) (hy : eqD y = true) (sx : SeqAt.shaped (pyd x) = true) (sy : SeqAt.shaped (pyd y) = true) : CT X ρ (.Compare a [.NotEq] [b] pos) (!PyData.eqv (pyd x) (pyd y)) ρ2 := t_cmp (op_neD hu) (opd_neD hx hy sx sy) ha hb (nomark _)
end
end VL
end

section
set_option Elab.async false
set_option linter.all false
set_option maxRecDepth 100000
set_option maxHeartbeats 4000000
namespace VL
open PySem PySem.Spec PyProof.Rows L2
section
variable {X : Cx} {e a b c tg : Expr} {es : List Expr} {ρ ρ1 ρ2 ρ3 ρ' : Lo} {x y z d : D} {pos p p2 : Pos} {F F' : Hp} {O : Addr → Prop} {σ : L2.St} {H H' S T : Hp} {i j : Nat} {n m : Str} {ds es' : List D} {q : Addr} {K : PySem.W.Frag} {W : WE} {rest : List Stmt}
/-- behind a new list another expression; then the list is a slot's own -/
theorem after_new {e : Expr} {vs : List V} {H1 : Hp} (J : SOk X.K F O ρ1 σ H1) (hp : H1 q = none) (r : Reps X.K (hid (UU O ρ1) H1) vs ds) (hb : CE X ρ1 b y ρ2) {Q : V → Hp → Prop}
    (k : ∀ w H2, SOk X.K F O ρ2 σ (delH H2 q) → delH H2 q q = none → Reps X.K (hid (UU O ρ2) (delH H2 q)) vs ds → Rep X.K (hid (UU O ρ2) (delH H2 q)) w y → H2 q = some (.lst vs) → (∀ v d, Rep X.K (hid (UU O ρ1) H1) v d → Rep X.K (hid (UU O ρ2) (delH H2 q)) v d) → Q w H2) : tw X b σ (upd H1 q (.lst vs)) Q := by
  have J1 : SOk X.K (upd (VL.sup ρ1 H1) q (.lst vs)) (orA O q) ρ1 σ (upd H1 q (.lst vs)) := J.sup.orNew hp
  have nS : VL.sup ρ1 H1 q = none := by
    cases zz : VL.sup ρ1 H1 q with
    | none => rfl
    | some o =>
      have := hid_ex q o zz
      rw [hp] at this
      cases this
  refine hb.2 _ _ σ _ _ J1 fun w H2 L rw' => ?_
  obtain ⟨K1, K2⟩ := L.orDel nS J.sup.od
  have hq2 : H2 q = some (.lst vs) := L.fr q _ upd_same
  have rw2 : Rep X.K (hid (UU O ρ2) (delH H2 q)) w y := rw'.mono (ex_hid fun a u _ nn h => by
    have nq : a ≠ q := fun e => nn (.inl (.inr e))
    exact ⟨fun zz => nn (zz.elim (fun zz => .inl (.inl zz)) .inr), by rw [delH_ne nq]; exact h⟩)
  have ex : Ex (hid (UU O ρ1) H1) (hid (UU O ρ2) (delH H2 q)) := ex_hid fun a u _ nn h => ⟨fun zz => nn (by
    unfold UU at zz ⊢
    rw [← hb.1]
    exact zz), K1.fr a u (hid_of (fun zz => nn (.inr zz)) h)⟩
  exact k w H2 (K1.weak J.le_sup J.od) delH_same (r.mono ex) rw2 hq2 fun v d r => r.mono ex
/-- a, b = [..], y -/
theorem css_parN (i j : Nat) {px py pt pt2 : Pos} {kt k2} (B : Bd X) (ha : CN X ρ a ds ρ1) (hb : CE X ρ1 b y ρ2) (k : ∀ q, CSs X ((ρ2.set i (.mut q ds)).set j (.dat y)) rest W) (hl : i < ρ2.length := by first | decide | simp) (hij : i ≠ j := by decide) (hi : X.N[i]? = some n := by rfl) (hj : X.N[j]? = some m := by rfl)
    (hx : X.env.scope.names.lookup n = some .local := by rfl) (hy : X.env.scope.names.lookup m = some .local := by rfl)
    (hw : swappedStores [.Tuple [.Name n px, .Name m py] kt pt] (.Tuple [a, b] k2 pt2) X.env = pure (some [n, m]) := by rfl)
    (hs : swapsWithSole [.Tuple [.Name n px, .Name m py] kt pt] (.Tuple [a, b] k2 pt2) pos.line X.env = pure false := by rfl)
    (he : starEach [a, b] X.env = (false, eval a X.env) :: starEach [b] X.env := by rfl) (he2 : starEach [b] X.env = (false, eval b X.env) :: starEach [] X.env := by rfl) : CSs X ρ (.Assign [.Tuple [.Name n px, .Name m py] kt pt] (.Tuple [a, b] k2 pt2) pos :: rest) W :=
  css_of (ps_par B.calm B.nd hi hj hij hx hy (pa_cons pe_tw (pa_cons pe_tw pa_nil he2) he) hw hs) fun F O σ H E I r => ha.2 F O σ H _ I fun q vs H1 J hp rv =>
    after_new (e := a) J hp rv hb fun w H2 L hq rs rw' hq2 _ => by
      refine ⟨.ref q, w, rfl, r.nx _ _ _ (k q) ?_⟩
      have M := L.own1 hq rs hl
      rw [upd_delH hq2] at M
      refine M.set (rw'.mono (ex_hid fun a o _ nn h => ⟨fun zz => ?_, ?_⟩))
      · rcases zz with zz | ⟨es, zz⟩
        · exact nn (.inl zz)
        · rcases List.mem_or_eq_of_mem_set zz with zz | zz
          · exact nn (.inr ⟨es, zz⟩)
          · cases zz
            rw [hq] at h
            cases h
      · have na : a ≠ q := fun e => by
          subst e
          rw [hq] at h
          cases h
        rw [delH_ne na] at h
        exact h
/-- a, b, c = x, [..], z -/
theorem css_par3N (i j l : Nat) {m2 : Str} {px py pz pt pt2 : Pos} {kt k2} (B : Bd X) (ha : CE X ρ a x ρ1) (hb : CN X ρ1 b ds ρ2) (hc : CE X ρ2 c z ρ3) (k : ∀ q, CSs X (((ρ3.set i (.dat x)).set j (.mut q ds)).set l (.dat z)) rest W) (hlt : j < ρ3.length := by first | decide | simp) (hij : i ≠ j := by decide) (hil : i ≠ l := by decide) (hjl : j ≠ l := by decide)
    (hi : X.N[i]? = some n := by rfl) (hj : X.N[j]? = some m := by rfl) (hl : X.N[l]? = some m2 := by rfl)
    (hx : X.env.scope.names.lookup n = some .local := by rfl) (hy : X.env.scope.names.lookup m = some .local := by rfl) (hz : X.env.scope.names.lookup m2 = some .local := by rfl)
    (hw : swappedStores [.Tuple [.Name n px, .Name m py, .Name m2 pz] kt pt] (.Tuple [a, b, c] k2 pt2) X.env = pure (some [n, m, m2]) := by rfl)
    (hs : swapsWithSole [.Tuple [.Name n px, .Name m py, .Name m2 pz] kt pt] (.Tuple [a, b, c] k2 pt2) pos.line X.env = pure false := by rfl)
    (he : starEach [a, b, c] X.env = (false, eval a X.env) :: starEach [b, c] X.env := by rfl) (he2 : starEach [b, c] X.env = (false, eval b X.env) :: starEach [c] X.env := by rfl) (he3 : starEach [c] X.env = (false, eval c X.env) :: starEach [] X.env := by rfl) :
    CSs X ρ (.Assign [.Tuple [.Name n px, .Name m py, .Name m2 pz] kt pt] (.Tuple [a, b, c] k2 pt2) pos :: rest) W :=
  css_of (ps_par3 B.calm B.nd hi hj hl hij hil hjl hx hy hz (pa_cons pe_tw (pa_cons pe_tw (pa_cons pe_tw pa_nil he3) he2) he) hw hs) fun F O σ H E I r => ha.2 F O σ H _ I fun v H0 I0 r0 => hb.2 _ O σ H0 _ I0.sup fun q vs H1 J hp rv => by
    have r1 := SOk.keep hb.1 J r0
    have J' := J.weak I0.le_sup I0.od
    refine after_new (e := a) J' hp rv (hb := hc) fun w H2 L hq rs rw' hq2 hk => ?_
    refine ⟨v, .ref q, w, rfl, r.nx _ _ _ (k q) ?_⟩
    have exS : ∀ {ρ : Lo} {i : Nat} {d : D} {H : Hp}, Ex (hid (UU O ρ) H) (hid (UU O (ρ.set i (.dat d))) H) := fun {ρ i d H} => ex_hid fun a o _ nn h => ⟨fun z => nn (UU_set datNe z), h⟩
    have M0 := L.set (i := i) (hk v x r1)
    have M1 := M0.own1 (i := j) hq (rs.mono (exS (i := i) (d := x))) (by rw [List.length_set]; exact hlt)
    rw [upd_delH hq2] at M1
    refine M1.set ((rw'.mono (exS (i := i) (d := x))).mono (ex_hid fun a o _ nn h => ⟨fun zz => ?_, ?_⟩))
    · rcases zz with zz | ⟨es, zz⟩
      · exact nn (.inl zz)
      · rcases List.mem_or_eq_of_mem_set zz with zz | zz
        · exact nn (.inr ⟨es, zz⟩)
        · cases zz
          rw [hq] at h
          cases h
    · have na : a ≠ q := fun e => by
        subst e
        rw [hq] at h
        cases h
      rw [delH_ne na] at h
      exact h
/-! ### a comprehension of pure elements -/
variable {elt iter cond : Expr} {scope : Scope} {own : List (Str × Nat)}
/-- no own list turns: each item d of the walk gives f d -/
theorem l_lc0 {T : Tg} (f : D → D) (hi : CI X ρ tg iter ds ρ1) (own : List (Str × Nat)) (B : Bd X) (ok : BlkOk X.N X.env.scope scope own) (hg : InB X scope fun Y => PG Y tg (gOf X.K T)) (hT : ∀ k ∈ T.slots, k ∈ own.map (·.2)) (hn : noMut ρ1 (own.map (·.2)))
    (hs : ∀ (i : Nat) d, ds[i]? = some d → ∃ ρ2, Bind T d (wipeL ρ1 (own.map (·.2))) ρ2 ∧ (∀ (k : Nat) p es, ρ1[k]? = some (.mut p es) → ρ2[k]? = some (.mut p es)) ∧ InB X scope fun Y => CE Y ρ2 elt (f d) ρ2)
    (hl : ds.length < sizeLine) (hfs : ∀ x, foldedSetIterable iter X.env x = pure x := by intro _; rfl) : CL X ρ elt tg iter [] scope (ds.map f) ρ1 := by
  refine l_lcG (T := T) (tt := tYes) (fun i ρi acc => ρi = ρ1 ∧ acc = (ds.take i).map f) B.calm B.nd hi ok hg (fun _ _ _ _ _ => pts_nil) hT hn ⟨rfl, rfl⟩ (fun i d ρi acc hd _ hJ => ?_) (fun ρn acc _ hJ => ⟨hJ.1, by rw [hJ.2, List.take_length]⟩) rfl hfs
  obtain ⟨rfl, rfl⟩ := hJ
  obtain ⟨ρ2, hb, hm, he⟩ := hs i d hd
  have hlt := (List.getElem?_eq_some_iff.mp hd).1
  refine ⟨ρ2, true, ρ2, hb, ⟨rfl, fun F O σ H Q I q => q H I⟩, fun _ => ⟨f d, ρ2, ρi, ev_twB he rfl, Like.refl, hm, ?_, rfl, ?_⟩, fun h => Bool.noConfusion h⟩
  · rw [List.length_map, List.length_take]
    omega
  · rw [List.take_add_one, hd, List.map_append]
    rfl
/-- .. with a test -/
theorem l_lc1 {T : Tg} (f : D → D) (g : D → Bool) (hi : CI X ρ tg iter ds ρ1) (own : List (Str × Nat)) (B : Bd X) (ok : BlkOk X.N X.env.scope scope own) (hg : InB X scope fun Y => PG Y tg (gOf X.K T)) (hT : ∀ k ∈ T.slots, k ∈ own.map (·.2)) (hn : noMut ρ1 (own.map (·.2)))
    (hs : ∀ (i : Nat) d, ds[i]? = some d → ∃ ρ2, Bind T d (wipeL ρ1 (own.map (·.2))) ρ2 ∧ (∀ (k : Nat) p es, ρ1[k]? = some (.mut p es) → ρ2[k]? = some (.mut p es)) ∧ (InB X scope fun Y => CT Y ρ2 cond (g d) ρ2) ∧ (g d = true → InB X scope fun Y => CE Y ρ2 elt (f d) ρ2))
    (hl : ds.length < sizeLine) (hfs : ∀ x, foldedSetIterable iter X.env x = pure x := by intro _; rfl) : CL X ρ elt tg iter [cond] scope ((ds.filter g).map f) ρ1 := by
  refine l_lcG (T := T) (tt := twTB X scope cond) (fun i ρi acc => ρi = ρ1 ∧ acc = ((ds.take i).filter g).map f) B.calm B.nd hi ok hg (fun _ _ _ _ _ => pts_one pt_twB) hT hn ⟨rfl, rfl⟩ (fun i d ρi acc hd _ hJ => ?_) (fun ρn acc _ hJ => ⟨hJ.1, by rw [hJ.2, List.take_length]⟩) rfl hfs
  obtain ⟨rfl, rfl⟩ := hJ
  obtain ⟨ρ2, hb, hm, hc, he⟩ := hs i d hd
  have hlt := (List.getElem?_eq_some_iff.mp hd).1
  have step : (ds.take (i + 1)).filter g = (ds.take i).filter g ++ (if g d then [d] else []) := by
    rw [List.take_add_one, hd, List.filter_append]
    congr 1
    cases h : g d <;> simp [h]
  refine ⟨ρ2, g d, ρ2, hb, et_twB hc rfl, fun h => ⟨f d, ρ2, ρi, ev_twB (he h) rfl, Like.refl, hm, ?_, rfl, ?_⟩, fun h => ⟨ρi, Like.refl, hm, rfl, ?_⟩⟩
  · rw [List.length_map]
    refine Nat.lt_of_le_of_lt (List.length_filter_le _ _) ?_
    rw [List.length_take]
    omega
  · rw [step, h, List.map_append]
    rfl
  · rw [step, h]
    simp
theorem n_lc0 {T : Tg} (f : D → D) (hi : CI X ρ tg iter ds ρ1) (own : List (Str × Nat)) (B : Bd X) (ok : BlkOk X.N X.env.scope scope own) (hg : InB X scope fun Y => PG Y tg (gOf X.K T)) (hT : ∀ k ∈ T.slots, k ∈ own.map (·.2)) (hn : noMut ρ1 (own.map (·.2)))
    (hs : ∀ (i : Nat) d, ds[i]? = some d → ∃ ρ2, Bind T d (wipeL ρ1 (own.map (·.2))) ρ2 ∧ (∀ (k : Nat) p es, ρ1[k]? = some (.mut p es) → ρ2[k]? = some (.mut p es)) ∧ InB X scope fun Y => CE Y ρ2 elt (f d) ρ2)
    (hl : ds.length < sizeLine) (hfs : ∀ x, foldedSetIterable iter X.env x = pure x := by intro _; rfl) : CN X ρ (.ListComp elt [⟨tg, iter, [], 0⟩] scope pos) (ds.map f) ρ1 := (l_lc0 f hi own B ok hg hT hn hs hl hfs).cn
theorem n_lc1 {T : Tg} (f : D → D) (g : D → Bool) (hi : CI X ρ tg iter ds ρ1) (own : List (Str × Nat)) (B : Bd X) (ok : BlkOk X.N X.env.scope scope own) (hg : InB X scope fun Y => PG Y tg (gOf X.K T)) (hT : ∀ k ∈ T.slots, k ∈ own.map (·.2)) (hn : noMut ρ1 (own.map (·.2)))
    (hs : ∀ (i : Nat) d, ds[i]? = some d → ∃ ρ2, Bind T d (wipeL ρ1 (own.map (·.2))) ρ2 ∧ (∀ (k : Nat) p es, ρ1[k]? = some (.mut p es) → ρ2[k]? = some (.mut p es)) ∧ (InB X scope fun Y => CT Y ρ2 cond (g d) ρ2) ∧ (g d = true → InB X scope fun Y => CE Y ρ2 elt (f d) ρ2))
    (hl : ds.length < sizeLine) (hfs : ∀ x, foldedSetIterable iter X.env x = pure x := by intro _; rfl) : CN X ρ (.ListComp elt [⟨tg, iter, [cond], 0⟩] scope pos) ((ds.filter g).map f) ρ1 := (l_lc1 f g hi own B ok hg hT hn hs hl hfs).cn
/-- name = [..] -/
theorem css_lc (i : Nat) {y : Str} {py pos spos : Pos} {ifs : List Expr} (h : CL X ρ elt tg iter ifs scope ds ρ1) (k : ∀ q, CSs X (ρ1.set i (.mut q ds)) rest W) (hl : i < ρ1.length := by first | decide | simp) (hi : X.N[i]? = some y := by rfl) (hx : X.env.scope.names.lookup y = some .local := by rfl)
    (hk : X.env.scope.kind = .function := by rfl) (hli : (py.line == pos.line) = true := by rfl) (ha : (scope.names.any fun (n, k) => n == y && (k == .local || k == .cell)) = false := by rfl) : CSs X ρ (.Assign [.Name y py] (.ListComp elt [⟨tg, iter, ifs, 0⟩] scope pos) spos :: rest) W := by
  obtain ⟨tl, _, h2, h3⟩ := h.ex
  exact css_of (h2 i y py pos spos hi hx (sw_true hk hx hli ha)) fun F O σ H E I r => h3.2 F O σ H _ I fun q vs H1 J hp rv => r.nx _ _ _ (k q) (J.own1 hp rv hl)
theorem css_lcF (i : Nat) {y : Str} {py pos spos : Pos} {ifs : List Expr} (h : CL X ρ elt tg iter ifs scope ds ρ1) (k : CSs X (ρ1.set i (.dat (.lst ds))) rest W) (hi : X.N[i]? = some y := by rfl) (hx : X.env.scope.names.lookup y = some .local := by rfl)
    (hk : X.env.scope.kind = .function := by rfl) (hli : (py.line == pos.line) = true := by rfl) (ha : (scope.names.any fun (n, k) => n == y && (k == .local || k == .cell)) = false := by rfl) : CSs X ρ (.Assign [.Name y py] (.ListComp elt [⟨tg, iter, ifs, 0⟩] scope pos) spos :: rest) W := by
  obtain ⟨tl, _, h2, h3⟩ := h.ex
  exact css_of (h2 i y py pos spos hi hx (sw_true hk hx hli ha)) fun F O σ H E I r => h3.2 F O σ H _ I fun q vs H1 J hp rv => r.nx _ _ _ k ((J.new hp).set (.lst (J.newHid hp) (rv.mono (ex_new hp))))
end
/-! ### targets by names -/
section
variable {X : Cx} {i : Nat} {n : Str} {p : Pos} {K : PySem.W.Frag}
theorem tg_nm (i : Nat) (nd : X.N.Nodup) (hi : X.N[i]? = some n := by rfl) (hx : Loc X.env.scope n := by first | exact Or.inl rfl | exact Or.inr rfl) (hf : X.fn n = true ∨ X.env.scope.names.lookup n = some .local := by first | exact .inl rfl | exact .inr rfl) : PG X (.Name n p) (gOf X.K (.nm i)) := pg_name nd hi hx hf
theorem tgs_nil : PGs X [] (gsOf K []) := pgs_nil
theorem tgs_cons {e : Expr} {es : List Expr} {T : Tg} {l : List Tg} (h : PG X e (gOf K T)) (hr : PGs X es (gsOf K l)) (hs : (assignEach (e :: es) X.env).map (·.2) = assign e X.env :: (assignEach es X.env).map (·.2) := by rfl) : PGs X (e :: es) (gsOf K (T :: l)) := pgs_cons h hr hs
theorem tg_tp {es : List Expr} {k : Nat} {l : List Tg} (hc : X.calm = true) (h : PGs X es (gsOf X.K l)) (hn : (assignEach es X.env).length = l.length := by rfl) (hst : (assignEach es X.env).findIdx? (·.1) = none := by rfl) : PG X (.Tuple es k p) (gOf X.K (.tp l)) := pg_tup hc h hn hst
end
end VL
namespace VL
open PySem PySem.Spec PyProof.Rows L2
theorem enumD_inv {xs : List D} {i : Nat} {d : D} (h : (enumD xs)[i]? = some d) : ∃ x, xs[i]? = some x ∧ d = .tup [.int (i : Nat), x] := by
  have hi : i < xs.length := by
    have := (List.getElem?_eq_some_iff.mp h).1
    rw [enumD_len] at this
    exact this
  refine ⟨xs[i], List.getElem?_eq_getElem hi, ?_⟩
  rw [enumD_get (List.getElem?_eq_getElem hi)] at h
  exact (Option.some.inj h).symm
theorem rangeD_inv {lo : Int} {n i : Nat} {d : D} (h : (rangeD lo n)[i]? = some d) : i < n ∧ d = .int (lo + (i : Nat)) := by
  have hi : i < n := by
    have := (List.getElem?_eq_some_iff.mp h).1
    rw [rangeD_len] at this
    exact this
  rw [rangeD_get hi] at h
  exact ⟨hi, (Option.some.inj h).symm⟩
theorem rangeDn_inv {lo : Int} {n i : Nat} {d : D} (h : (rangeDn lo n)[i]? = some d) : i < n ∧ d = .int (lo - (i : Nat)) := by
  have hi : i < n := by
    have := (List.getElem?_eq_some_iff.mp h).1
    rw [rangeDn_len] at this
    exact this
  rw [rangeDn_get hi] at h
  exact ⟨hi, (Option.some.inj h).symm⟩
theorem zipD_inv {xs ys : List D} {i : Nat} {d : D} (h : (zipD xs ys)[i]? = some d) : ∃ x y, xs[i]? = some x ∧ ys[i]? = some y ∧ d = .tup [x, y] := by
  unfold zipD at h
  rw [List.getElem?_zipWith] at h
  cases h1 : xs[i]? with
  | none => rw [h1] at h; cases h
  | some x =>
    cases h2 : ys[i]? with
    | none => rw [h1, h2] at h; cases h
    | some y =>
      rw [h1, h2] at h
      exact ⟨x, y, rfl, rfl, (Option.some.inj h).symm⟩
theorem atI_i {xs : List D} {k : Nat} {i : Int} {d : D} (hi : i = (k : Nat)) (h : xs[k]? = some d) : atI xs i = some d := by
  subst hi
  exact atI_nat h
theorem at_ints {ns : List Int} {k : Nat} {n : Int} (h : ns[k]? = some n) : (ns.map D.int)[k]? = some (.int n) := by
  rw [List.getElem?_map, h]
  rfl
theorem sz {n : Nat} (h : n ≤ 100000) : n ≤ sizeLine := Nat.le_trans h (by decide)
theorem szl {n : Nat} (h : n < 100000) : n < sizeLine := Nat.lt_of_lt_of_le h (by decide)
theorem flat1 (d : D) : ∀ n : Nat, (List.replicate n [d]).flatten = List.replicate n d
  | 0 => rfl
  | n + 1 => by rw [List.replicate_succ, List.flatten_cons, flat1 d n, List.replicate_succ]; rfl
theorem ixN_nat {n k : Nat} {i : Int} (hi : i = (k : Nat)) (h : k < n) : ixN n i = some k := by
  subst hi
  unfold ixN
  rw [if_pos (by omega), if_pos (by omega), Int.toNat_natCast]
section
variable {X : Cx} {e : Expr} {es : List Expr} {ρ ρ1 : Lo} {pos p : Pos} {n x : Str} {ds : List D} {W : WE} {rest : List Stmt} {r : Res} {k i : Nat}
/-- a call of one result, maybe an error -/
theorem q_callD {A : List D → Res → Prop} (Fn : FnV X.prog X.w X.K X.mg X.base k x (detS A)) (hr : Room k X.A) (ha : CD X ρ (e :: es) ds ρ1) (hA : A ds r) (hg : Gl X x := by rfl) (hdb : (x == ("__debug__" : Str)) = false := by decide)
    (he : starEach (e :: es) X.env = (false, eval e X.env) :: starEach es X.env := by rfl) (hpl : (backTo pos (starEach es X.env)).any (·.1) = false := by rfl) : ∀ R : Res → Lo → Prop, R r ρ1 → CQ X ρ (.Call (.Name x p) (e :: es) [] pos) R :=
  fun R h => q_call Fn hr ha ⟨ds, r, rfl, hA, rfl, h⟩ hg hdb he hpl
theorem css_exprR (q : ∀ R : Res → Lo → Prop, R r ρ1 → CQ X ρ e R) (h1 : ∀ d, r = .ok d → CSs X ρ1 rest W) (h2 : ∀ er, r = .error er → W.er er ρ1) (hs : swapsWith e none pos.line X.env = pure false := by rfl) : CSs X ρ (.Expr e pos :: rest) W :=
  css_exprQ (q _ (by cases r with | ok d => exact h1 d rfl | error er => exact h2 er rfl)) hs
theorem css_retR (q : ∀ R : Res → Lo → Prop, R r ρ1 → CQ X ρ e R) (h1 : ∀ d, r = .ok d → W.rt d ρ1) (h2 : ∀ er, r = .error er → W.er er ρ1) : CSs X ρ (.Return (some e) pos :: rest) W :=
  css_retQ (q _ (by cases r with | ok d => exact h1 d rfl | error er => exact h2 er rfl))
theorem css_asgR (i : Nat) (B : Bd X) (q : ∀ R : Res → Lo → Prop, R r ρ1 → CQ X ρ e R) (h1 : ∀ d, r = .ok d → CSs X (ρ1.set i (.dat d)) rest W) (h2 : ∀ er, r = .error er → W.er er ρ1) (hi : X.N[i]? = some n := by rfl) (hx : Loc X.env.scope n := by first | exact Or.inl rfl | exact Or.inr rfl)
    (hs : swapsWith e (some (.Name n p)) pos.line X.env = pure false := by rfl) (hf : X.fn n = true ∨ X.env.scope.names.lookup n = some .local := by first | exact .inl rfl | exact .inr rfl) : CSs X ρ (.Assign [.Name n p] e pos :: rest) W :=
  css_asgQ i B (q _ (by cases r with | ok d => exact h1 d rfl | error er => exact h2 er rfl)) hi hx hs hf
end
end VL
end

section
set_option Elab.async false
set_option linter.all false
set_option maxRecDepth 100000
set_option maxHeartbeats 4000000
/-! while an exception is handled: walks over lists, tuples taken apart, comprehensions -/
namespace VLH
open PySem PySem.Spec PyProof.Rows L2 HotX VL
open L2H (HotC TurnH PIH PIEH HotC.at)
section
variable {prog : Program} {w : World} {A : Around} {E : Value → Shared → Prop} {s : Shared}
theorem hot_but {x1 it : Addr} {h h' : Heap} (hot : HotAt A x1 h) (hs : Heap.ExtBut it h h') (hne : x1 ≠ it) : HotAt A x1 h' := by
  obtain ⟨hh, o1, vs1, h1, d1, c1⟩ := hot
  exact ⟨hh, o1, vs1, hs _ _ hne h1, d1, c1⟩
theorem next_list_end_hot {it l x1 : Addr} {i : Nat} {items} {Q : Option Value → Shared → Prop} (hot : HotAt A x1 s.heap)
    (hit : s.heap.IsListIter it l i) (hl : s.heap.IsList l items) (hx : items[i]? = none)
    (hQ : ∀ h', Heap.ExtBut it s.heap h' → Q none { s with heap := h' }) : wpAny (model prog w) A (pyNext (.ref it)) Q E s := by
  obtain ⟨o, ho, hc, hd⟩ := id hit
  obtain ⟨ol, hol, _, nl, hdl⟩ := hl
  have hne : x1 ≠ it := fun z => by
    obtain ⟨hh, o1, vs1, h1, d1, c1⟩ := hot
    rw [z, ho] at h1
    cases h1
    rw [hd] at d1
    cases d1
    simp at c1
  unfold pyNext
  refine wpAny_bind (wpAny_attempt (wpAny_callSpecial?_slot (name := Str.ofString "__next__") hit.typeIs slot_listiter_next
    (wpAny_call_entry slot_listiter_next hit.typeIs entry_listiter_next ?_ (args_listiter_next _))))
  show wpAny _ _ (field (.ref it) 0 >>= _) _ _ s
  refine wpAny_bind (wpAny_field ho hd (x := .ref l) rfl ?_)
  show wpAny _ _ (if (Value.ref l == Value.none) = true then _ else _) _ _ s
  rw [if_neg (show ¬ ((Value.ref l == Value.none) = true) from Bool.false_ne_true)]
  show wpAny _ _ (field (.ref it) 1 >>= _) _ _ s
  refine wpAny_bind (wpAny_field ho hd (x := .int i 0) rfl ?_)
  show wpAny _ _ (seqItems? (.ref l) >>= _) _ _ s
  refine wpAny_bind (wpAny_seqItems hol hdl ?_)
  simp only [Int.toNat_natCast, hx]
  refine wpAny_bind (wpAny_rule (wpAny_bind (wpAny_setField ho hd (by simp) ?_)))
  obtain ⟨hh, o1, vs1, h1, d1, c1⟩ := hot_but hot (Heap.SameBut.update s.heap it _).extBut hne
  show wpAny _ _ (newExc (.type "StopIteration") [] >>= _) _ _ _
  refine wpAny_bind ?_
  simp only [newExc, newTuple]
  refine wpAny_bind (wpAny_newObj_type ?_ (by size_fits))
  refine wpAny_bind (m := firstArgMember _ _) (wpAny_of_eq (a := Value.none) (by first | rfl | (simp only [firstArgMember]; rfl)) ?_)
  refine wpAny_newObj_type ?_ (by size_fits)
  refine raiseNew_hot ⟨hh, o1, vs1, Heap.get?_push_of_some _ (Heap.get?_push_of_some _ h1), d1, c1⟩ (Nat.ne_of_lt (Heap.lt_size (Heap.get?_push_of_some _ h1))) (Heap.get?_push_size _ rfl) rfl (by first | (simp; done) | (simp; omega) | (simp only [Array.size_append]; simp; omega)) ?_
  refine wpAny_bind (wpAny_isInstance (T := "StopIteration") (b := true) ⟨_, Heap.get?_update_self _ (Heap.get?_push_size _ rfl) rfl, rfl⟩ isSubtype_stop ?_)
  refine wpAny_pure (hQ _ fun b o hb e => ?_)
  have e1 := (Heap.SameBut.update s.heap it (Obj.mapFields fun x => x.setIfInBounds 0 Value.none)).extBut b o hb e
  rw [Heap.get?_update_other _ _ (Nat.ne_of_gt (Heap.lt_size (Heap.get?_push_of_some _ e1)))]
  exact Heap.get?_push_of_some _ (Heap.get?_push_of_some _ e1)
theorem next_tuple_end_hot {it l x1 : Addr} {i : Nat} {items} {Q : Option Value → Shared → Prop} (hot : HotAt A x1 s.heap)
    (hit : IsTupIter s.heap it l i) (hl : IsTup s.heap l items) (hx : items[i]? = none)
    (hQ : ∀ h', Heap.ExtBut it s.heap h' → Q none { s with heap := h' }) : wpAny (model prog w) A (pyNext (.ref it)) Q E s := by
  obtain ⟨o, ho, hc, hd⟩ := id hit
  obtain ⟨ol, hol, _, nl, hdl⟩ := hl
  have hne : x1 ≠ it := fun z => by
    obtain ⟨hh, o1, vs1, h1, d1, c1⟩ := hot
    rw [z, ho] at h1
    cases h1
    rw [hd] at d1
    cases d1
    simp at c1
  unfold pyNext
  refine wpAny_bind (wpAny_attempt (wpAny_callSpecial?_slot (name := Str.ofString "__next__") hit.typeIs slot_tupleiter_next
    (wpAny_call_entry slot_tupleiter_next hit.typeIs entry_tupleiter_next ?_ (args_tupleiter_next _))))
  show wpAny _ _ (field (.ref it) 0 >>= _) _ _ s
  refine wpAny_bind (wpAny_field ho hd (x := .ref l) rfl ?_)
  show wpAny _ _ (if (Value.ref l == Value.none) = true then _ else _) _ _ s
  rw [if_neg (show ¬ ((Value.ref l == Value.none) = true) from Bool.false_ne_true)]
  show wpAny _ _ (field (.ref it) 1 >>= _) _ _ s
  refine wpAny_bind (wpAny_field ho hd (x := .int i 0) rfl ?_)
  show wpAny _ _ (seqItems? (.ref l) >>= _) _ _ s
  refine wpAny_bind (wpAny_seqItems hol hdl ?_)
  simp only [Int.toNat_natCast, hx]
  refine wpAny_bind (wpAny_rule (wpAny_bind (wpAny_setField ho hd (by simp) ?_)))
  obtain ⟨hh, o1, vs1, h1, d1, c1⟩ := hot_but hot (Heap.SameBut.update s.heap it _).extBut hne
  show wpAny _ _ (newExc (.type "StopIteration") [] >>= _) _ _ _
  refine wpAny_bind ?_
  simp only [newExc, newTuple]
  refine wpAny_bind (wpAny_newObj_type ?_ (by size_fits))
  refine wpAny_bind (m := firstArgMember _ _) (wpAny_of_eq (a := Value.none) (by first | rfl | (simp only [firstArgMember]; rfl)) ?_)
  refine wpAny_newObj_type ?_ (by size_fits)
  refine raiseNew_hot ⟨hh, o1, vs1, Heap.get?_push_of_some _ (Heap.get?_push_of_some _ h1), d1, c1⟩ (Nat.ne_of_lt (Heap.lt_size (Heap.get?_push_of_some _ h1))) (Heap.get?_push_size _ rfl) rfl (by first | (simp; done) | (simp; omega) | (simp only [Array.size_append]; simp; omega)) ?_
  refine wpAny_bind (wpAny_isInstance (T := "StopIteration") (b := true) ⟨_, Heap.get?_update_self _ (Heap.get?_push_size _ rfl) rfl, rfl⟩ isSubtype_stop ?_)
  refine wpAny_pure (hQ _ fun b o hb e => ?_)
  have e1 := (Heap.SameBut.update s.heap it (Obj.mapFields fun x => x.setIfInBounds 0 Value.none)).extBut b o hb e
  rw [Heap.get?_update_other _ _ (Nat.ne_of_gt (Heap.lt_size (Heap.get?_push_of_some _ e1)))]
  exact Heap.get?_push_of_some _ (Heap.get?_push_of_some _ e1)

theorem unpackItems_tuple_hot {x1 t : Addr} {items : Array Value} {Q : List Value → Shared → Prop} (hot : HotAt A x1 s.heap) (ht : IsTup s.heap t items)
    (hQ : ∀ h', Heap.ExtBut s.heap.objs.size s.heap h' → Q items.toList { s with heap := h' }) : wpAny (model prog w) A (unpackItems (.ref t) items.size none) Q E s := by
  have hlt : t ≠ s.heap.objs.size := by obtain ⟨o, ho, _⟩ := ht; exact Nat.ne_of_lt (Heap.lt_size ho)
  have hx : x1 ≠ s.heap.objs.size := by obtain ⟨_, o, _, ho, _⟩ := hot; exact Nat.ne_of_lt (Heap.lt_size ho)
  unfold unpackItems
  refine wpAny_bind ?_
  · unfold notIterableAtAll
    refine wpAny_bind (wpAny_specialOf ht.typeIs slot_tuple_iter.lookup ?_)
    refine wpAny_pure ?_
    simp only [Bool.false_eq_true, if_false]
    refine wpAny_bind (wpAny_holding (iter_tuple ht ?_))
    refine wpAny_bind (wpAny_holding (draw_tuple hlt items.size 0 _ _ ⟨_, Heap.get?_push_size _ rfl, rfl, rfl⟩ (ht.push _) (by omega) fun h₁ hit₁ hs₁ => ?_))
    have hall : List.take items.size (List.drop 0 items.toList) = items.toList := by
      rw [List.drop_zero]; exact List.take_of_length_le (by simp)
    rw [hall]
    rw [if_neg (by simp)]
    have ht₁ : IsTup h₁ t items := (ht.push _).extBut hs₁.extBut hlt
    have hot1 : HotAt A x1 h₁ := hot_but hot (fun b o hb e => hs₁.extBut b o hb (Heap.get?_push_of_some _ e)) hx
    refine wpAny_bind (wpAny_holding (next_tuple_end_hot (s := { s with heap := h₁ }) hot1 hit₁ ht₁ (by simp) fun h₂ he₂ => ?_))
    simp only [Option.isSome_none, Bool.false_eq_true, if_false]
    refine wpAny_pure (hQ h₂ fun b o hb e => he₂ b o hb (hs₁.extBut b o hb (Heap.get?_push_of_some _ e)))
theorem assign_Tuple_tuple_hot {env : Env} {elts : List Expr} {x0} {x1 : Addr} {pos : Pos} {t : Addr} {items : Array Value} {Q : Unit → Shared → Prop} (hot : HotAt A x1 s.heap) (ht : IsTup s.heap t items)
    (hn : (assignEach elts env).length = items.size) (hstar : (assignEach elts env).findIdx? (·.1) = none)
    (h : ∀ h', Heap.ExtBut s.heap.objs.size s.heap h' → wpAny (model prog w) A (assignInOrder ((assignEach elts env).map (·.2)) items.toList) Q E { s with heap := h' }) :
    wpAny (model prog w) A (assign (.Tuple elts x0 pos) env (.ref t)) Q E s := by
  rw [assign_Tuple]
  refine wpAny_bind (wpAny_standAt ?_)
  unfold unpack
  rw [hn, hstar]
  exact wpAny_bind (wpAny_holding (unpackItems_tuple_hot hot ht h))
end
theorem pg_tupH {X : Cx} {pos : Pos} {es : List Expr} {k : Nat} {t : TGs} {n : Nat} (hc : HotC X) (h : PGs X es t)
    (hn : (assignEach es X.env).length = n := by rfl) (hst : (assignEach es X.env).findIdx? (·.1) = none := by rfl) : PG X (.Tuple es k pos) (gTup X.K n t) := by
  refine ⟨fun pins s σ H v u Q I r hw => ?_⟩
  obtain ⟨a, xs, e1, hq, hl, hw⟩ := hw
  subst e1
  cases r
  obtain ⟨its, rv, ht, hz⟩ := I.tuple hq
  obtain ⟨x1, hot⟩ := hc.at I
  refine assign_Tuple_tuple_hot hot ht (by simp [hn, ← hl, rv.length]) hst fun h' hx => ?_
  have I1 : Inv X pins σ H { s with heap := h' } := I.kept (t' := s.toks) fun b o e => hx b o (Nat.ne_of_lt (Heap.lt_size e)) e
  exact h.run pins _ σ H xs _ Q I1 (by simpa using rv) hw
theorem turn_listH {P : Program} {w : World} {K : PySem.W.Frag} {tg : Expr} (a it : Addr) : TurnH P w K tg (Itl K a) [it] it (fun i h => h.IsListIter it a i) where
  mem := by simp
  obj := fun i h st b hb => by
    have e : b = it := by simpa using hb
    subst e
    obtain ⟨o, e, c, d⟩ := st
    exact ⟨o, e, fun v z => by rw [d] at z; cases z⟩
  keep := fun i h h' st k => st.at fun o e => k it (by simp) o e
  item := by
    intro X hP hw hK hc i pins s σ H E I hf st hg
    subst hP hw hK
    obtain ⟨xs, x, hq, hx⟩ := hg
    obtain ⟨its, rv, p, hz⟩ := I.list hq
    obtain ⟨u, hu, ru⟩ := rv.get hx
    obtain ⟨f0, f1, f2, f3, f4, f5⟩ := hf it (by simp)
    refine wpAny_pyNext_list_item st p.isList (x := u) (by simpa using hu) fun h' st' sb => ?_
    have I1 : Inv X pins σ H { s with heap := h' } := I.turned (t' := s.toks) (fun b o hb e => (sb.2 b hb).trans e) f0 f1 f3 f4 f5
    obtain ⟨o, e, c, d⟩ := id st'
    exact ⟨u, rfl, go_of (s := { s with heap := h' }) e c d (by decide) ⟨x, H, I1, ru, ⟨rfl, fun ys hy => by rw [I.list_inj hy hq]; exact hx⟩, st', fun b hb => (hf b hb).1⟩⟩
  done := by
    intro X hP hw hK hc i pins s σ H E I hf st hg
    subst hP hw hK
    obtain ⟨xs, hq, hx⟩ := hg
    obtain ⟨its, rv, p, hz⟩ := I.list hq
    obtain ⟨f0, f1, f2, f3, f4, f5⟩ := hf it (by simp)
    have hl := rv.length
    obtain ⟨x1, hot⟩ := hc.at I
    exact next_list_end_hot hot st p.isList (by simp; omega) fun h' eb => ⟨rfl, I.turned (t' := s.toks) (fun b o hb e => eb b o hb e) f0 f1 f3 f4 f5⟩
  self := fun _ _ _ _ _ st h => wpAny_pyIter_listiter st h
theorem pi_listH {X : Cx} {tg l : Expr} {tl : TE} (hl : PE X l tl) : PIH X tg l (iList X.K tl) := by
  refine ⟨fun pins s σ H R I h => ?_⟩
  refine thn (hl.run pins s σ H _ I h) fun v s1 ⟨x, H1, I1, r1, q1⟩ => ?_
  obtain ⟨a, e, ⟨xs, hq⟩, q⟩ := q1
  subst e
  cases r1
  obtain ⟨its, rv, p, hz⟩ := I1.list hq
  refine wpAny_pyIter_list p.isList ?_
  refine ⟨s1.heap.objs.size, [s1.heap.objs.size], _, _, H1, rfl, I1.kept (t' := s1.toks) fun b o e => Heap.get?_push_of_some _ e, turn_listH a _, ⟨_, Heap.get?_push_size _ rfl, rfl, rfl⟩, fun b hb => ?_, q⟩
  have e : b = s1.heap.objs.size := by simpa using hb
  subst e
  exact I1.fpOk (Nat.le_refl _) (I1.hok.fresh (Nat.le_refl _))

/-- the context of a comprehension's block that bears the pins of its def -/
abbrev blkH (X : Cx) (pins : List (Addr × Obj)) (s : Shared) (H : Hp) (scope : Scope) (cenv : Env) (fp : List Addr) : Cx := { X.blk s H scope cenv fp with pn := X.pn ++ pins }
section
variable {X : Cx} {pins : List (Addr × Obj)} {σ : L2.St} {H : Hp} {s : Shared}
theorem okH {scope : Scope} {cenv : Env} {fp : List Addr} (ok : (X.blk s H scope cenv fp).Ok) : (blkH X pins s H scope cenv fp).Ok :=
  ⟨ok.mod, ok.kind, ok.glob, ok.blt, ok.above, ok.inj, ok.has, ok.cab, ok.hd, ok.frames, ok.stk, ok.exf, ok.bs, ok.bsz, ok.noex, ok.exfs, ok.funs, ok.frf⟩
theorem block_startH {scope : Scope} {own : List (Str × Nat)} {fp : List Addr} (I : Inv X pins σ H s) (ok : BlkOk X.N X.env.scope scope own) (hN : X.N.Nodup) (hfp : ∀ b ∈ fp, FpOk X pins H b ∧ b < s.heap.objs.size) :
    Inv (blkH X pins s H scope (compEnvC scope (cellsFrom (s.heap.objs.size + 1) scope.names (cloFrom X.env.cells scope.names [])) s.heap.objs.size X.env) fp) [] (wipe σ (own.map (·.2))) H { s with heap := pushCells (s.heap.push { cls := .type "dict", data := .dict #[] }) scope.names } := by
  have J := block_start I ok hN hfp
  refine ⟨okH J.ok, J.os, J.bare, J.base, J.loc, J.cell, J.free, J.freeC, fun p hp => ?_, J.hok, J.len⟩
  have hp' : p ∈ X.pn ++ pins := by rw [List.append_nil] at hp; exact hp
  obtain ⟨h1, h2, h3, h4, h5⟩ := I.pin p hp'
  refine ⟨pushCells_keeps _ _ _ _ (Heap.get?_push_of_some _ h1), h2, Nat.ne_of_lt (Heap.lt_size h1), fun z => ?_, h5⟩
  rcases List.mem_cons.mp (I.stkSub _ z) with z | z
  · exact h3 z
  · exact h4 z
theorem lc_coreH {Q : VK} {elt tg iter : Expr} {ifs : List Expr} {scope : Scope} {own : List (Str × Nat)} {pos pos' : Pos} {wi : TI} {g : TG} {tt : TT} {te : TE} {use : Option (Value → Sem Unit)} {Qf : Value → Shared → Prop}
    (hc : HotC X) (hN : X.N.Nodup) (I : Inv X pins σ H s) (hi : PIH X tg iter wi) (ok : BlkOk X.N X.env.scope scope own)
    (hg : ∀ (s : Shared) (H : Hp) (C : Addr) (cl : List (Str × Addr)) (fp : List Addr), PG (blkH X pins s H scope (compEnvC scope cl C X.env) fp) tg g) (ht : ∀ (s : Shared) (H : Hp) (C : Addr) (cl : List (Str × Addr)) (fp : List Addr), PTs (blkH X pins s H scope (compEnvC scope cl C X.env) fp) ifs tt)
    (he : ∀ (s : Shared) (H : Hp) (C : Addr) (cl : List (Str × Addr)) (fp : List Addr), PE (blkH X pins s H scope (compEnvC scope cl C X.env) fp) elt te) (hs : ∀ x, foldedSetIterable iter X.env x = pure x)
    (h : tLc wi g tt te (own.map (·.2)) σ H Q)
    (hRR : ∀ D C s' m H', Inv X pins σ H' s' → Q (.ref D) H' → s'.heap.Ns C m → FpOk X pins H' C → compPost (model X.prog X.w) X.A X.xe use Qf (.ref D) C (.ok .next) s') :
    wpAny (model X.prog X.w) X.A (comprehension (.ListComp elt [⟨tg, iter, ifs, 0⟩] scope pos) scope X.env pos' (newList []) false (eval iter X.env) use) Qf X.xe s := by
  have hfree : ∀ y ∈ scope.names, y.2 = .free → ∃ c, X.env.cells.lookup y.1 = some c := fun y hy e => (ok.free y hy e).elim (fun k => I.ok.has _ (.inl k)) fun k => I.ok.has _ (.inr k)
  have hcB : ∀ {s : Shared} {H : Hp} {ce : Env} {fp : List Addr}, HotC (blkH X pins s H scope ce fp) := fun {s H ce fp} => let ⟨p, h1, h2⟩ := hc; ⟨p, h1, List.mem_append_left _ h2⟩
  refine wpAny_comprehension_free (use := use) rfl hs (closure_ok hfree) ok.kind (fun y hy e => by rw [ok.uniq y hy, e])
    (thn (hi.run pins s σ H _ I h) fun xv s1 hx => thn hx fun itv s2 h2 => ?_)
  obtain ⟨it, fp, tn, J, H2, e, I2, T, st2, f2, q⟩ := h2
  subst e
  refine wpAny_newObj_type (newEnv_comp ?_) (by show 0 ≤ sizeLine; decide)
  generalize hD : s2.heap.objs.size = D
  have hDn : H2 D = none := I2.hok.fresh (Nat.le_of_eq hD)
  obtain ⟨W, ⟨m0, w0⟩, turn⟩ := q D hDn
  generalize hs3 : ({ s2 with heap := s2.heap.push { cls := .type "list", data := .seq ([] : List Value).toArray } } : Shared) = s3
  have I3 : Inv X pins σ (upd H2 D (.lst [])) s3 := by
    rw [← hs3]
    refine I2.laid (t' := s2.toks) (fun b o e => Heap.get?_push_of_some _ e) (Nat.le_of_eq hD) ⟨Nat.zero_le _, [], 0, .nil, ?_⟩
    rw [← hD]
    exact Heap.get?_push_size _ rfl
  have h3 : s3.heap = s2.heap.push { cls := .type "list", data := .seq ([] : List Value).toArray } := by rw [← hs3]
  have sz : ∀ b ∈ fp, b < s2.heap.objs.size := fun b hb => by
    obtain ⟨o, e, _⟩ := T.obj _ _ st2 b hb
    exact Heap.lt_size e
  have f3 : ∀ b ∈ fp, FpOk X pins (upd H2 D (.lst [])) b ∧ b < s3.heap.objs.size := fun b hb => by
    have hlt := sz b hb
    refine ⟨⟨?_, (f2 b hb).2⟩, by rw [h3, Heap.size_push]; exact Nat.lt_succ_of_lt hlt⟩
    rw [upd_ne (by rw [← hD]; exact Nat.ne_of_lt hlt)]
    exact (f2 b hb).1
  have st3 : tn 0 s3.heap := T.keep _ _ _ st2 fun b _ o e => by rw [h3]; exact Heap.get?_push_of_some _ e
  have I4 := block_startH I3 ok hN f3
  have pg := hg s3 (upd H2 D (.lst [])) s3.heap.objs.size (cellsFrom (s3.heap.objs.size + 1) scope.names (cloFrom X.env.cells scope.names [])) fp
  have pt := ht s3 (upd H2 D (.lst [])) s3.heap.objs.size (cellsFrom (s3.heap.objs.size + 1) scope.names (cloFrom X.env.cells scope.names [])) fp
  have pe := he s3 (upd H2 D (.lst [])) s3.heap.objs.size (cellsFrom (s3.heap.objs.size + 1) scope.names (cloFrom X.env.cells scope.names [])) fp
  show codeAny _ _ (.compStart (.ListComp elt [⟨tg, iter, ifs, 0⟩] scope pos) 0 (.ref it) (.ref D) (compEnvC scope (cellsFrom (s3.heap.objs.size + 1) scope.names (cloFrom X.env.cells scope.names [])) s3.heap.objs.size X.env)) (compPost (model X.prog X.w) X.A X.xe use Qf (.ref D) s3.heap.objs.size) { s3 with heap := pushCells (s3.heap.push { cls := .type "dict", data := .dict #[] }) scope.names }
  have nfp : ∀ b ∈ fp, (upd H2 D (.lst [])) b = none := fun b hb => (f3 b hb).1.1
  generalize hce : compEnvC scope (cellsFrom (s3.heap.objs.size + 1) scope.names (cloFrom X.env.cells scope.names [])) s3.heap.objs.size X.env = ce at I4 pg pt pe ⊢
  have cL : ce.locals = s3.heap.objs.size := by subst hce; rfl
  generalize hH3 : upd H2 D (.lst []) = H3 at I3 I4 pg pt pe w0 nfp f3
  generalize hs4 : ({ s3 with heap := pushCells (s3.heap.push { cls := .type "dict", data := .dict #[] }) scope.names } : Shared) = s4 at I4 ⊢
  have st4 : tn 0 s4.heap := T.keep _ _ _ st3 fun b _ o e => by rw [← hs4]; exact pushCells_keeps _ _ _ _ (Heap.get?_push_of_some _ e)
  have stat : ∀ {σ' : L2.St} {H' : Hp} {s' : Shared}, Inv (blkH X pins s3 H3 scope ce fp) [] σ' H' s' → (∀ b ∈ fp, H' b = none) → ∀ b ∈ fp, FpOk (blkH X pins s3 H3 scope ce fp) [] H' b := fun {σ' H' s'} I' hn b hb =>
    ⟨hn b hb, (I'.ok.exf b hb).1, I'.ok.exfs b hb, .inl hb, fun x c e => (I'.ok.exf b hb).2 x c e, fun p hp => (f2 b hb).2.2.2.2.2 p (by
      have hp' : p ∈ (X.pn ++ pins) ++ [] := hp
      rw [List.append_nil] at hp'
      exact hp')⟩
  have loop : codeAny (model X.prog X.w) X.A (.compLoop (.ListComp elt [⟨tg, iter, ifs, 0⟩] scope pos) 0 (.ref it) (.ref D) ce) (compPost (model X.prog X.w) X.A X.xe use Qf (.ref D) s3.heap.objs.size) s4 := by
    refine compLoop_any (fun n s' => ∃ i H', Inv (blkH X pins s3 H3 scope ce fp) [] (wipe σ (own.map (·.2))) H' s' ∧ tn i s'.heap ∧ (∀ b ∈ fp, H' b = none) ∧ W i n H') ?_ m0 ⟨0, H3, I4, st4, nfp, w0⟩
    rintro n s5 ⟨i, H5, I5, st5, n5, w5⟩
    rcases turn i n H5 w5 with ⟨stop, qq⟩ | ⟨go, Nx, hNx, step⟩
    · have td := T.done (blkH X pins s3 H3 scope ce fp) rfl rfl rfl hcB i [] s5 _ H5 (fun _ _ => False) I5 (stat I5 n5) st5 stop
      refine thnF td fun r s6 ⟨hr, I6⟩ => ?_
      subst hr
      have I7 : Inv X pins σ H5 s6 := I3.call' (ch := fp) I6.os I6.base I6.hok I6.bare fun b hb => ⟨(f3 b hb).1.2.2.2.1, (f3 b hb).1.2.1, (f3 b hb).1.2.2.2.2.1, (f3 b hb).1.2.2.2.2.2⟩
      have nC : H5 s3.heap.objs.size = none := by
        have z : H5 ce.locals = none := I6.free
        rw [cL] at z
        exact z
      obtain ⟨m, hn, _⟩ := I6.loc
      have hn : s6.heap.Ns ce.locals m := hn
      rw [cL] at hn
      exact hRR D s3.heap.objs.size s6 m H5 I7 qq hn (I3.fpOk (Nat.le_refl _) nC)
    · have ti := T.item (blkH X pins s3 H3 scope ce fp) rfl rfl rfl hcB i [] s5 _ H5 (fun _ _ => False) I5 (stat I5 n5) st5 go
      refine thnF ti fun r s6 ⟨u, hr, h6⟩ => ?_
      subst hr
      refine thnF h6 fun _ s7 ⟨x, H7, I7, r7, y7, st7, n7⟩ => ?_
      have I7' := I7.pinned (stat I7 n7) (T.obj _ _ st7)
      refine thnF (pg.run _ s7 _ H7 x u _ I7' r7 (step x H7 y7)) fun _ s8 ⟨σ8, H8, I8, hw8, q8⟩ => ?_
      refine thnF (pt.run _ s8 σ8 H8 _ I8 q8) fun b s9 ⟨H9, I9, q9⟩ => ?_
      have fin : ∀ {s' : Shared} {H' : Hp}, Inv (blkH X pins s3 H3 scope ce fp) ([] ++ pinsAt fp s7.heap) σ8 H' s' → Nx H' → ∃ m, m < n ∧ ∃ i H', Inv (blkH X pins s3 H3 scope ce fp) [] (wipe σ (own.map (·.2))) H' s' ∧ tn i s'.heap ∧ (∀ b ∈ fp, H' b = none) ∧ W i m H' := fun {s' H'} I' nx => by
        obtain ⟨m', hm, w'⟩ := hNx H' nx
        have pin' : ∀ b ∈ fp, ∀ o, s7.heap.get? b = some o → s'.heap.get? b = some o ∧ H' b = none := fun b hb o e =>
          let z := I'.pin (b, o) (List.mem_append_right _ (List.mem_append_right _ (mem_pinsAt hb e)))
          ⟨z.1, z.2.1⟩
        have hl : (wipe σ (own.map (·.2))).length = σ8.length := by rw [← hw8, wipe_length]
        refine ⟨m', hm, i + 1, H', (I'.unpinned (pins := [])).weak hl (fun j v e => ?_), T.keep _ _ _ st7 fun b hb o e => (pin' b hb o e).1, fun b hb => ?_, w'⟩
        · rw [← hw8] at e
          exact (wipe_some e).1
        · obtain ⟨o, e, _⟩ := T.obj _ _ st7 b hb
          exact (pin' b hb o e).2
      cases b with
      | false =>
        simp only [Bool.false_eq_true, if_false] at q9 ⊢
        exact fin I9 q9
      | true =>
        simp only [if_true] at q9 ⊢
        refine thnF (pe.run _ s9 σ8 H9 _ I9 q9) fun z s10 ⟨yv, H10, I10, r10, acc, hD10, hz10, nx⟩ => ?_
        exact app_ok (X := blkH X pins s3 H3 scope ce fp) I10 hD10 hz10 r10 fun s11 I11 => fin I11 nx
  exact codeAny_compStart_list loop (T.self X.A 0 _ _ _ st4 loop)
end
end VLH
end

section
set_option Elab.async false
set_option linter.all false
set_option maxRecDepth 100000
set_option maxHeartbeats 4000000
/-! except X as n, where a comprehension holds n -/
namespace VLH
open PySem PySem.Spec PyProof.Rows L2 HotX VL
open L2H (HotC TurnH PIH PIEH HotC.at)
section
variable {X : Cx} {pins : List (Addr × Obj)} {σ : L2.St} {H : Hp} {s : Shared}
/-- the cell's name goes -/
theorem gone_okC {M : Model} {A : Around} {E : Value → Shared → Prop} {i : Nat} {n : Str} {pos : Pos} {Q : Unit → Shared → Prop} (I : Inv X pins σ H s) (hN : X.N.Nodup) (hi : X.N[i]? = some n) (hl : X.env.kindOf n = some .cell) (hfn : X.fn n = true)
    (h : ∀ s', Inv X pins (σ.set i none) H s' → Q () s') : wpAny M A (do bindName X.env n .none; unbindBehindTheSuite X.env n pos) Q E s := by
  obtain ⟨m, hn, hlk⟩ := id I.loc
  have cne := I.cne
  obtain ⟨c, hc⟩ := I.ok.has n (.inl hl)
  obtain ⟨w', z⟩ := I.cell n c hc
  obtain ⟨oc, hoc, hocd⟩ := id z
  refine wpAny_bind (wpAny_bindName (wpAny_storeName_cell I.ok.kind hl hc z fun h1 hc1 hs1 => ?_))
  unfold unbindBehindTheSuite
  refine wpAny_onRaise ?_
  unfold unbindName
  refine wpAny_bind (wpAny_point (wpAny_bind ?_))
  unfold deleteName
  simp only [hl]
  refine wpAny_bind (wpAny_cellOf hc (wpAny_bind (wpAny_cellGet hc1 ?_)))
  rw [if_pos (show (some Value.none).isSome = true from rfl)]
  refine wpAny_cellSet hc1 fun h2 hc2 hs2 => wpAny_point ?_
  have hs := hs1.trans hs2
  refine h _ ⟨I.ok, I.os, I.bare, ⟨fun b o e n hb hx => ?_, fun b o e n hb hx => ?_, I.base.free, fun b o e hx => ?_, I.base.tups, I.base.frzs, I.base.tbls⟩, ⟨m, hn.sameBut hs (Ne.symm (cne n c hc)), fun j y v' e1 e2 e3 => ?_⟩, fun y c' e => ?_, I.free, I.freeC, fun p hp => ?_, fun b ob e => ?_, by simpa using I.len⟩
  · exact (hs.2 b (Nat.ne_of_lt (Nat.lt_of_lt_of_le (Heap.lt_size e) (I.ok.cab _ c hfn hc)))).trans (I.base.keep b o e n hb hx)
  · obtain ⟨sl, e1⟩ := I.base.slot b o e n hb hx
    exact ⟨sl, (hs.2 b (Nat.ne_of_lt (Nat.lt_of_lt_of_le (Heap.lt_size e) (I.ok.cab _ c hfn hc)))).trans e1⟩
  · obtain ⟨o', e1⟩ := I.base.there b o e hx
    exact ⟨o', (hs.2 b (Nat.ne_of_lt (Nat.lt_of_lt_of_le (Heap.lt_size e) (I.ok.cab _ c hfn hc)))).trans e1⟩
  · by_cases hj : j = i
    · subst hj
      by_cases hlt : j < σ.length
      · rw [List.getElem?_set_self hlt] at e2; cases e2
      · rw [List.getElem?_eq_none (by simpa using hlt)] at e2; cases e2
    · rw [List.getElem?_set_ne (Ne.symm hj)] at e2
      obtain ⟨u', r', q⟩ := hlk j y v' e1 e2 e3
      refine ⟨u', r', ?_⟩
      rcases q with q | ⟨k, c', e, z'⟩
      · exact .inl q
      · refine .inr ⟨k, c', e, z'.sameBut hs ?_⟩
        rintro rfl
        exact hj (nodup_ix hN e1 (I.ok.inj _ _ _ e hc ▸ hi))
  · by_cases hcc : c' = c
    · subst hcc; exact ⟨_, hc2⟩
    · obtain ⟨w2, z2⟩ := I.cell y c' e
      exact ⟨w2, z2.sameBut hs hcc⟩
  · obtain ⟨e, n, ne, nf, d⟩ := I.pin p hp
    refine ⟨(hs.2 p.1 ?_).trans e, n, ne, nf, d⟩
    intro q
    rw [q, hoc] at e
    have q' : oc = p.2 := Option.some.inj e
    exact d w' (by rw [← q']; exact hocd)
  · refine (I.hok b ob e).stay (fun d w2 hd q => (hs.2 d fun z2 => ?_).trans q) (fun _ q => q) fun _ _ q => q
    have hfree := I.freeC n _ hc
    rw [z2] at hd
    rcases hd with k | k
    · rw [← k, hfree] at e; cases e
    · rw [hfree] at k; cases k
end
section
variable {X : Cx} {x n : Str} {c : Value} {i : Nat} {body suite : List Stmt} {b₀ : Stmt} {np pos pos' : Pos} {tb : WX → TS} {ts : Addr → Value → Option Addr → TS} {Wout : WX}
theorem ps_try_asC (hs : X.stack = X.env :: X.outer) (hf : X.env.frame = some X.env.locals) (hN : X.N.Nodup) (hi : X.N[i]? = some n) (hln : X.env.kindOf n = some .cell) (hfn : X.fn n = true) (hc : Names X x c) (tk : L2N.Takes X Wout)
    (hb : ∀ (W : WX) (pn : List (Addr × Obj)) (xe : Value → Shared → Prop), L2N.Takes (X.tr pn xe) W → PassesOwn (model X.prog X.w) X.A X.env xe → PSs (X.tr pn xe) body (tb W))
    (hsu : ∀ (a : Addr) (oe : Obj) (cls : Value) (d : Option Addr) (pn : List (Addr × Obj)), L2N.Zn cls d oe → (∃ vs, oe.data = .fields vs) → PSs (X.suite a ((a, oe) :: pn)) (b₀ :: suite) (ts a cls d)) :
    PS X (.Try body [.ExceptHandler (some (.Name x np)) (some n) (b₀ :: suite) pos'] [] [] pos) (fun D σ H => tb (wAs X.K c i ts Wout D) D σ H) := by
  refine ⟨fun pins s σ H D I h => ?_⟩
  have ok := I.ok
  have hfr : X.A.frames = some (X.env :: X.outer) := by rw [ok.frames, hs]
  have hloc : Loc X.env.scope n := .inr hln
  refine wpAny_Try_except ?_
  refine wpAny_mono ((hb (wAs X.K c i ts Wout D) (X.pn ++ pins) (fun e s₁ => wpAny (model X.prog X.w) X.A (noteFrame e X.env) (fun _ s₂ => wpAny (model X.prog X.w) X.A (setFlight e none) (fun _ s₃ =>
    wpAny (model X.prog X.w) X.A (handleBy e X.env [.ExceptHandler (some (.Name x np)) (some n) (b₀ :: suite) pos']) (SP X pins D) X.xe s₃) X.xe s₂) X.xe s₁) (fun u s' xx => ?_) PassesOwn.looking).run [] s σ H D (I.toTry _) h) (fun f s1 hsp => ?_) (fun e s1 he => he)
  · -- the catch
    obtain ⟨a, B, sI, pins', σ', H', cls, d, rfl, J', nb, up, sky, na, os, ag, b, hb1, hyes, hno⟩ := xx
    have J : Inv X pins σ' H' sI := J'.ofTry ok
    have sky' : Sky B (X.env :: X.outer) a (L2N.Zn cls d) X.env.locals s'.heap := by rw [← hs]; exact sky
    show wpAny (model X.prog X.w) X.A (noteFrame (.ref a) X.env) _ _ _
    refine L2N.Sky.land L2N.Zn.steady hfr hf sky' fun h3 fl3 up3 => ?_
    have J3 : Inv X pins σ' H' { s' with heap := h3 } := J.landed nb fl3.1 (up.trans up3) os ag
    obtain ⟨oe3, vs3, he3, hz3, hd3⟩ := fl3.there
    have notFr : ∀ {h : Heap} {o : Obj} {vs : Array Value}, h.FunFrames B (X.env :: X.outer) → h.get? a = some o → o.data = .fields vs → a ∉ frs (X.env :: X.outer) := fun {h o vs} ff e dd hm => by
      obtain ⟨_, o', e', hnf⟩ := ff.mem hm
      rw [e] at e'; cases e'
      exact hnf _ dd
    have nfr := notFr fl3.2.2.1 he3 hd3
    have nL : a ≠ X.env.locals := fun z => nfr (List.mem_filterMap.mpr ⟨X.env, List.mem_cons_self, by rw [hf, z]⟩)
    have nF : a ∉ X.fs := fun hm => by
      obtain ⟨e, he, q⟩ := List.mem_filterMap.mp hm
      exact nfr (List.mem_filterMap.mpr ⟨e, List.mem_cons_of_mem _ he, q⟩)
    have S3 := J3.suite he3 hd3 na nL nF
    refine wpAny_handleBy_cons (codeAny_handlers_test ?_) (by intro q; cases q)
    have LT : PySem.W.Looks (model X.prog X.w) h3 (typeOf (.ref a)) cls := fun A Q E s k q => wpAny_typeOf_ref (k _ _ he3) (by rw [hz3.1]; exact q)
    have LM := PySem.W.exm_one (M := model X.prog X.w) (J3.kIn) LT hb1
    have test : ∀ {Q : Value → Shared → Prop} {E : Value → Shared → Prop}, Q c { s' with heap := h3 } → wpAny (model X.prog X.w) (X.A.mark (some (.ref a))) (eval (.Name x np) X.env) Q E { s' with heap := h3 } := fun {Q E} q => by
      obtain ⟨hg, hdbg, hm | ⟨hm, hv, hnn⟩⟩ := hc
      · exact ld_glob (X := X.suite a ((a, oe3) :: (X.pn ++ pins))) S3 hg hm q hdbg
      · exact ld_blt (X := X.suite a ((a, oe3) :: (X.pn ++ pins))) S3 hg hm hv q hnn hdbg
    refine test (LM.here ?_)
    cases b with
    | true =>
      refine codeAny_handlers_suite_as ?_
      refine HandSPX.lands_againZ fl3 fun h4 fl4 up4 => ?_
      have J4 : Inv X pins σ' H' { s' with heap := h4 } := J.landed nb fl4.1 ((up.trans up3).trans up4) os ag
      obtain ⟨oe4, vs4, he4, hz4, hd4⟩ := fl4.there
      have S4 := J4.suite he4 hd4 na nL nF
      refine store_ok (X := X.suite a ((a, oe4) :: (X.pn ++ pins))) (v := .ref a) S4 hN hi hloc rfl (fun s5 S5 => ?_) (.inl hfn)
      refine wpAny_mono ((hsu a oe4 cls d (X.pn ++ pins) hz4 ⟨_, hd4⟩).run [] s5 _ H' _ S5 (hyes rfl a na)) (fun f s6 hsp => ?_) (fun _ _ z => False.elim z)
      have end_ : ∀ {σ6 : L2.St} {H6 : Hp} {Q : Shared → Prop}, Inv (X.suite a ((a, oe4) :: (X.pn ++ pins))) [] σ6 H6 s6 → (∀ s7, Inv X pins (σ6.set i none) H6 s7 → Q s7) →
          wpAny (model X.prog X.w) X.A (do bindName X.env n .none; unbindBehindTheSuite X.env n pos') (fun _ s7 => Q s7) X.xe s6 := fun {σ6 H6 Q} S6 hq => gone_okC (S6.unsuite ok) hN hi hln hfn hq
      cases f with
      | next =>
        obtain ⟨σ6, H6, S6, q6⟩ := hsp
        exact end_ S6 fun s7 J7 => ⟨_, _, J7, q6⟩
      | brk =>
        obtain ⟨σ6, H6, S6, q6⟩ := hsp
        exact end_ S6 fun s7 J7 => ⟨_, _, J7, q6⟩
      | cont =>
        obtain ⟨σ6, H6, S6, q6⟩ := hsp
        exact end_ S6 fun s7 J7 => ⟨_, _, J7, q6⟩
      | ret u =>
        obtain ⟨v6, σ6, H6, S6, r6, q6⟩ := hsp
        exact end_ S6 fun s7 J7 => ⟨_, _, _, J7, r6, q6⟩
    | false =>
      show wpAny _ X.A (handleBy (.ref a) X.env []) _ _ _
      refine wpAny_handleBy_nil ?_
      obtain ⟨k1, k2, k3, oe, vs, T, oT, ts', he, hz, hd, h1, hr⟩ := id fl3
      unfold PySem.passOn
      refine wpAny_bind (wpAny_field he hd h1 ?_)
      rw [if_neg (show ¬ ((Value.ref T == Value.none) = true) from by simp)]
      have fin : wpAny (model X.prog X.w) X.A (setFlight (.ref a) X.env.frame) (fun _ s4 => wpAny (model X.prog X.w) X.A (throw (.ref a) : Sem Flow) (SP X pins D) X.xe s4) X.xe { s' with heap := h3 } := by
        rw [hf]
        refine HandSPX.setFlight_upZ fl3 fun h4 hh4 up4 => wpAny_throw (tk _ _ ?_)
        exact ⟨a, B, sI, pins, σ', H', cls, d, rfl, J, nb, (up.trans up3).trans up4, .inr (.inr (by rw [hs]; exact hh4)), na, os, ag, hno rfl⟩
      first
        | exact wpAny_bind (wpAny_pure (wpAny_bind fin))
        | exact wpAny_bind fin
  · cases f with
    | next =>
      obtain ⟨σ', H', J', q⟩ := hsp
      exact wpAny_execs_nil ⟨σ', H', J'.ofTry ok, q⟩
    | brk =>
      obtain ⟨σ', H', J', q⟩ := hsp
      exact ⟨σ', H', J'.ofTry ok, q⟩
    | cont =>
      obtain ⟨σ', H', J', q⟩ := hsp
      exact ⟨σ', H', J'.ofTry ok, q⟩
    | ret u =>
      obtain ⟨v, σ', H', J', r, q⟩ := hsp
      exact ⟨v, σ', H', J'.ofTry ok, r, q⟩
end
end VLH
end

section
set_option Elab.async false
set_option linter.all false
set_option maxRecDepth 100000
set_option maxHeartbeats 4000000
/-! the except suite in the words of the layer -/
namespace VLH
open PySem PySem.Spec PyProof.Rows L2 HotX VL
open L2H (HotC TurnH PIH PIEH HotC.at Hot1)
/-! ### isinstance of the caught exception -/
structure ExcD (K : PySem.W.Frag) (D : Addr) : Prop where
  cl : (PySem.W.clsIn K D).isSome = true
  ga : PySem.W.findIn K (.ref D) "__getattribute__" = some (some (.builtin "BaseException.__getattribute__"))
  gt : PySem.W.findIn K (.ref D) "__getattr__" = some none
  sb : PySem.W.subIn K (.ref D) (.type "BaseException") = some true
  ca : PySem.W.findIn K (.ref D) "__class__" = some (some (.builtin "object.__class__"))
  gs : PySem.W.specialIn K (.builtin "object.__class__") "__get__" = some (some (.builtin "getset_descriptor.__get__"))
  tk : PySem.W.takesIn K (.builtin "object.__class__") = some true
  mr : PySem.W.mroIn K D (.type "object") = some true
def rIsD (K : PySem.W.Frag) (a : Addr) (D : Addr) (d : Option Addr) : List V → Hp → VK → Prop := fun xs H Q => (d = none ∨ ∃ dd fs, d = some dd ∧ H dd = some (.xd fs)) ∧ ∃ (c : V) (cv : Value) (b : Bool), xs = [.ref a, c] ∧ (∀ u, RelV c u → u = cv) ∧ PySem.W.kitOne K (.ref D) cv = some b ∧ Q (.bl b) H
theorem call_isD {Z : Cx} {a D : Addr} {oe : Obj} {d : Option Addr} (hp : (a, oe) ∈ Z.pn) (C : ExcD Z.K D) (hz : Zc (.ref D) d oe) (hf : ∃ vs, oe.data = .fields vs) : CallR Z (.builtin "isinstance") (rIsD Z.K a D d) := by
  intro pins s σ H xs us Q I r h
  obtain ⟨hd, c, cv, b, rfl, hcv, e, q⟩ := h
  cases r with
  | cons rx rr =>
    cases rr with
    | cons rt rr =>
      cases rr
      cases rx
      have ec := hcv _ rt
      subst ec
      obtain ⟨hget, _⟩ := I.pin (a, oe) (List.mem_append.mpr (.inl hp))
      obtain ⟨vs, hv⟩ := hf
      have J : ∃ od, PySem.W.InstAt s.heap a oe D od := by
        rcases hd with hd | ⟨dd, fs, hd, hx⟩
        · refine ⟨none, hget, hz.1, by unfold PySem.W.notCls; rw [hv] <;> rfl, ?_⟩
          rw [hz.2, hd]
          trivial
        · have hx' : ObjOk Z.prog Z.w H s.heap dd (.xd fs) := I.hok dd _ hx
          obtain ⟨mA, hns, hr⟩ := hx'
          obtain ⟨od, ho, hl⟩ := lookIn_ns hns
          refine ⟨some od, hget, hz.1, by unfold PySem.W.notCls; rw [hv] <;> rfl, ?_⟩
          rw [hz.2, hd]
          exact ho
      obtain ⟨od, J⟩ := J
      exact PySem.W.kia_one (PySem.W.kitx_exc C.cl C.ga C.gt C.sb C.ca C.gs C.tk C.mr) I.kIn J e (fun z => nomatch z) fun tk => ⟨.bl b, H, I.kept (t' := tk) fun _ _ z => z, rfl, q⟩
/-- the caught exception as a datum -/
def exD (a : Addr) (dd : Option Addr) (fs : List (Str × VL.D)) : VL.D := match dd with
  | none => .adr a
  | some dx => .exc a dx fs
theorem rep_exD {K : PySem.W.Frag} {H : Hp} {a : Addr} {dd : Option Addr} {C : Addr} {fs : List (Str × VL.D)} {cls : Value} (h : ErRep K H cls dd ⟨C, fs⟩) : Rep K H (.ref a) (exD a dd fs) := by
  obtain ⟨_, ⟨_, e⟩ | ⟨dx, fvs, e, h1, h2⟩⟩ := h
  · subst e
    exact .adr a
  · subst e
    exact .exc h1 h2
theorem exD_ref {K : PySem.W.Frag} {H : Hp} {a : Addr} {dd : Option Addr} {fs : List (Str × VL.D)} {v : V} (h : Rep K H v (exD a dd fs)) : v = .ref a ∧ (dd = none ∨ ∃ d fs, dd = some d ∧ H d = some (.xd fs)) := by
  cases dd with
  | none => cases h; exact ⟨rfl, .inl rfl⟩
  | some dx => cases h with
    | exc h1 h2 => exact ⟨rfl, .inr ⟨_, _, rfl, h1⟩⟩
section
variable {Z : Cx} {e b : Expr} {ρ ρ1 ρ2 : Lo} {pos p : Pos} {a D : Addr} {oe : Obj} {dd : Option Addr} {fs : List (Str × VL.D)}
theorem c_isD {y : VL.D} {cv : Value} {k : Bool} (hp : (a, oe) ∈ Z.pn) (C : ExcD Z.K D) (hz : Zc (.ref D) dd oe) (hf : ∃ vs, oe.data = .fields vs) (hy : ∀ H v, Rep Z.K H v y → ∀ u, RelV v u → u = cv) (hm : Z.mg "isinstance" = none) (he : CE Z ρ e (exD a dd fs) ρ1) (hb : CE Z ρ1 b y ρ2) (hk : PySem.W.kitOne Z.K (.ref D) cv = some k) (hg : Gl Z "isinstance" := by rfl)
    (hs : starEach [e, b] Z.env = (false, eval e Z.env) :: starEach [b] Z.env := by rfl) (hpl : (backTo pos (starEach [b] Z.env)).any (·.1) = false := by rfl)
    (he2 : starEach [b] Z.env = (false, eval b Z.env) :: starEach [] Z.env := by rfl) : CE Z ρ (.Call (.Name "isinstance" p) [e, b] [] pos) (.bl k) ρ2 :=
  c_blt (call_isD hp C hz hf) (fun F O ρ σ H vs Q I r q => by
    obtain ⟨v, w, rfl, r1, r2⟩ := two_of r
    obtain ⟨rfl, hd⟩ := exD_ref r1
    exact ⟨hd.imp id fun ⟨d, f, e1, e2⟩ => ⟨d, f, e1, hid_ex _ _ e2⟩, w, cv, k, rfl, hy _ _ r2, hk, q _ _ I (.bl _)⟩) hm (by decide +kernel) (d_cons he (d_cons hb d_nil he2) hs) hg (he := hs) (hpl := hpl)
theorem rel_adr {K : PySem.W.Frag} {C : Addr} : ∀ (H : Hp) (v : V), Rep K H v (.adr C) → ∀ u, RelV v u → u = .ref C := fun H v r u h => by
  cases r
  exact h
theorem rel_ty {K : PySem.W.Frag} {T : String} : ∀ (H : Hp) (v : V), Rep K H v (.ty T) → ∀ u, RelV v u → u = .type T := fun H v r u h => by
  cases r
  exact h
theorem repF_lookup {K : PySem.W.Frag} {H : Hp} {n : Str} {d : VL.D} : ∀ {fvs : List (Str × V)} {fs : List (Str × VL.D)}, RepF K H fvs fs → fs.lookup n = some d → ∃ v, fvs.lookup n = some v ∧ Rep K H v d
  | _, _, .nil, h => by cases h
  | _, _, .cons (k := k) h1 h2, h => by
    rw [List.lookup_cons] at h
    rw [List.lookup_cons]
    cases q : n == k with
    | true => rw [q] at h; cases h; exact ⟨_, rfl, h1⟩
    | false => rw [q] at h; exact repF_lookup h2 h
/-- error.n -/
theorem c_xf {X : Cx} {C : Addr} {n : Str} {pn : List (Addr × Obj)} {d : VL.D} {dx : Addr} (T : XfC X.K C) (hno : PySem.W.findIn X.K (.ref C) n = some none) (hz : Zc (.ref C) (some dx) oe) (hf : ∃ vs, oe.data = .fields vs)
    (he : CE (X.suite a ((a, oe) :: pn)) ρ e (.exc a dx fs) ρ1) (hl : fs.lookup n = some d) (hb : attributeBase e n X.env (eval e X.env) = eval e X.env := by rfl) : CE (X.suite a ((a, oe) :: pn)) ρ (.Attribute e n pos) d ρ1 :=
  .of (pe_xf T hno hz hf pe_tw hb) ⟨he.1, fun F O σ H Q I q => he.2 F O σ H _ I fun v H1 J r => by
    cases r with
    | exc h1 h2 =>
      obtain ⟨u, e1, e2⟩ := repF_lookup h2 hl
      exact ⟨rfl, rfl, _, _, u, rfl, hid_ex _ _ h1, e1, q _ _ J e2⟩⟩
end

/-! ### the comprehension there -/
section
variable {X : Cx} {e a b c tg elt iter : Expr} {es ifs : List Expr} {ρ ρ1 ρ2 ρ3 ρ' : Lo} {x y d : VL.D} {pos p p2 : Pos} {ds es' : List VL.D} {scope : Scope} {own : List (Str × Nat)}
theorem pe_lcH {wi : TI} {g : TG} {tt : TT} {te : TE} (hc : HotC X) (hN : X.N.Nodup) (hi : PIH X tg iter wi) (ok : BlkOk X.N X.env.scope scope own)
    (hg : ∀ (pins : List (Addr × Obj)) (s : Shared) (H : Hp) (C : Addr) (cl : List (Str × Addr)) (fp : List Addr), PG (blkH X pins s H scope (compEnvC scope cl C X.env) fp) tg g) (ht : ∀ (pins : List (Addr × Obj)) (s : Shared) (H : Hp) (C : Addr) (cl : List (Str × Addr)) (fp : List Addr), PTs (blkH X pins s H scope (compEnvC scope cl C X.env) fp) ifs tt)
    (he : ∀ (pins : List (Addr × Obj)) (s : Shared) (H : Hp) (C : Addr) (cl : List (Str × Addr)) (fp : List Addr), PE (blkH X pins s H scope (compEnvC scope cl C X.env) fp) elt te) (hs : ∀ x, foldedSetIterable iter X.env x = pure x := by intro _; rfl) :
    PE X (.ListComp elt [⟨tg, iter, ifs, 0⟩] scope pos) (tLc wi g tt te (own.map (·.2))) := by
  refine ⟨fun pins s σ H Q I h => ?_⟩
  rw [eval_ListComp]
  refine lc_coreH hc hN I hi ok (hg pins) (ht pins) (he pins) hs h fun D C s' m H' I' q hn f => ⟨m, hn, fun h'' sb => ?_⟩
  obtain ⟨f0, f1, f2, f3, f4, f5⟩ := f
  exact ⟨.ref D, H', I'.turned (t' := s'.toks) (fun b o hb e => (sb.2 b hb).trans e) f0 f1 f3 f4 f5, rfl, q⟩
theorem ps_setLcH {i : Nat} {y : Str} {py spos : Pos} {wi : TI} {g : TG} {tt : TT} {te : TE} (hc : HotC X) (hN : X.N.Nodup) (hy : X.N[i]? = some y) (hyl : X.env.scope.names.lookup y = some .local)
    (hsw : swapsWith (.ListComp elt [⟨tg, iter, ifs, 0⟩] scope pos) (some (.Name y py)) spos.line X.env = pure true) (hi : PIH X tg iter wi) (ok : BlkOk X.N X.env.scope scope own)
    (hg : ∀ (pins : List (Addr × Obj)) (s : Shared) (H : Hp) (C : Addr) (cl : List (Str × Addr)) (fp : List Addr), PG (blkH X pins s H scope (compEnvC scope cl C X.env) fp) tg g) (ht : ∀ (pins : List (Addr × Obj)) (s : Shared) (H : Hp) (C : Addr) (cl : List (Str × Addr)) (fp : List Addr), PTs (blkH X pins s H scope (compEnvC scope cl C X.env) fp) ifs tt)
    (he : ∀ (pins : List (Addr × Obj)) (s : Shared) (H : Hp) (C : Addr) (cl : List (Str × Addr)) (fp : List Addr), PE (blkH X pins s H scope (compEnvC scope cl C X.env) fp) elt te) (hs : ∀ x, foldedSetIterable iter X.env x = pure x := by intro _; rfl) :
    PS X (.Assign [.Name y py] (.ListComp elt [⟨tg, iter, ifs, 0⟩] scope pos) spos) (tAsg (tLc wi g tt te (own.map (·.2))) (gName i)) := by
  refine ⟨fun pins s σ H D I h => ?_⟩
  rw [exec_Assign_Name_used _ _ _ _ hsw]
  refine wpAny_bind (wpAny_standAt (wpAny_bind ?_))
  show wpAny _ X.A (do let _ ← comprehension (.ListComp elt [⟨tg, iter, ifs, 0⟩] scope pos) scope X.env (firstIterPos [⟨tg, iter, ifs, 0⟩] pos) (newList []) false (eval iter X.env) (some (assign (.Name y py) X.env))) _ _ s
  have h : tLc wi g tt te (own.map (·.2)) σ H (fun x H1 => gName i x σ H1 D.nx) := h
  refine wpAny_bind (thn (lc_coreH (Qf := fun _ s' => SP X pins D .next s') hc hN I hi ok (hg pins) (ht pins) (he pins) hs h fun L C s' m H' I' q hn f => ?_) fun _ s' hq => wpAny_pure (wpAny_pure hq))
  show wpAny _ _ (assign (.Name y py) X.env (.ref L)) _ _ _
  refine wpAny_assign_Name (store_ok2 (v := V.ref L) I' hN hy (.inl hyl) rfl (fun s2 I2 ⟨a, sb, ha⟩ => ?_) (.inr hyl))
  obtain ⟨f0, f1, f2, f3, f4, f5⟩ := f
  have haC : C ≠ a := by
    rcases ha with z | z
    · rw [z]; exact f1
    · exact fun e => f4 y a z e.symm
  refine ⟨m, hn.sameBut sb haC, fun h3 sb3 => ?_⟩
  exact ⟨_, H', I2.turned (t' := s2.toks) (fun b o hb e => (sb3.2 b hb).trans e) f0 f1 f3 f4 f5, q⟩
abbrev InBH (X : Cx) (scope : Scope) (P : Cx → Prop) : Prop := ∀ (pins : List (Addr × Obj)) (s : Shared) (H' : Hp) (C : Addr) (cl : List (Str × Addr)) (fp : List Addr), P (blkH X pins s H' scope (compEnvC scope cl C X.env) fp)
def twBH (X : Cx) (scope : Scope) (e : Expr) : TE := fun σ H Q => InBH X scope fun Y => tw Y e σ H Q
def twTBH (X : Cx) (scope : Scope) (e : Expr) : TT := fun σ H Q => InBH X scope fun Y => twT Y e σ H Q
theorem pe_twBH {pins : List (Addr × Obj)} {s : Shared} {H' : Hp} {C : Addr} {cl : List (Str × Addr)} {fp : List Addr} : PE (blkH X pins s H' scope (compEnvC scope cl C X.env) fp) e (twBH X scope e) := ⟨fun q s σ H Q I h => h _ _ _ _ _ _ q s I⟩
theorem pt_twBH {pins : List (Addr × Obj)} {s : Shared} {H' : Hp} {C : Addr} {cl : List (Str × Addr)} {fp : List Addr} : PT (blkH X pins s H' scope (compEnvC scope cl C X.env) fp) e (twTBH X scope e) := ⟨fun q s σ H Q I h => h _ _ _ _ _ _ q s I⟩
theorem ev_twBH (h : InBH X scope fun Y => CE Y ρ e d ρ1) (ho : owns ρ1 = owns ρ) : EV X.K (twBH X scope e) ρ d ρ1 := ⟨ho, fun F O σ H Q I q pins s H' C cl fp => (h pins s H' C cl fp).2 F O σ H Q I q⟩
theorem et_twBH {k : Bool} (h : InBH X scope fun Y => CT Y ρ e k ρ1) (ho : owns ρ1 = owns ρ) : ET X.K (twTBH X scope e) ρ k ρ1 := ⟨ho, fun F O σ H Q I q pins s H' C cl fp => (h pins s H' C cl fp).2 F O σ H Q I q⟩
/-- [elt for tg in e if cond], e a list -/
theorem l_lcH {T : Tg} {cond : Expr} (f : VL.D → VL.D) (g : VL.D → Bool) (ha : CE X ρ e (.lst ds) ρ1) (own : List (Str × Nat)) (hc : HotC X) (hN : X.N.Nodup) (ok : BlkOk X.N X.env.scope scope own) (hg : InBH X scope fun Y => PG Y tg (gOf X.K T)) (hT : ∀ k ∈ T.slots, k ∈ own.map (·.2)) (hn : noMut ρ1 (own.map (·.2)))
    (hs : ∀ (i : Nat) d, ds[i]? = some d → ∃ ρ2, Bind T d (wipeL ρ1 (own.map (·.2))) ρ2 ∧ (∀ (k : Nat) p es, ρ1[k]? = some (.mut p es) → ρ2[k]? = some (.mut p es)) ∧ (InBH X scope fun Y => CT Y ρ2 cond (g d) ρ2) ∧ (g d = true → InBH X scope fun Y => CE Y ρ2 elt (f d) ρ2))
    (hl : ds.length < sizeLine) (hfs : ∀ x, foldedSetIterable e X.env x = pure x := by intro _; rfl) : CL X ρ elt tg e [cond] scope ((ds.filter g).map f) ρ1 := by
  refine ⟨_, fun pos => pe_lcH hc hN (pi_listH pe_tw) ok hg (fun _ _ _ _ _ _ => pts_one pt_twBH) (fun _ _ _ _ _ _ => pe_twBH) hfs, fun i y py pos spos hy hyl hsw => ps_setLcH hc hN hy hyl hsw (pi_listH pe_tw) ok hg (fun _ _ _ _ _ _ => pts_one pt_twBH) (fun _ _ _ _ _ _ => pe_twBH) hfs, en_lcR (T := T) (tt := twTBH X scope cond) (te := twBH X scope elt) ha.1
    (fun F O σ H R I k => ha.2 F O σ H _ I fun v H1 J r => by
      cases r with
      | lst h1 rs => exact ⟨_, rfl, ⟨_, .of (hid_ex _ _ h1)⟩, k _ H1 J (wk_list h1 rs)⟩)
    (fun i ρi acc => ρi = ρ1 ∧ acc = ((ds.take i).filter g).map f) hT hn ⟨rfl, rfl⟩ (fun i d ρi acc hd _ hJ => ?_) (fun ρn acc _ hJ => ⟨hJ.1, by rw [hJ.2, List.take_length]⟩) rfl⟩
  obtain ⟨rfl, rfl⟩ := hJ
  obtain ⟨ρ2, hb, hm, ht, he⟩ := hs i d hd
  have hi : i < ds.length := (List.getElem?_eq_some_iff.mp hd).1
  have tk : ds.take (i + 1) = ds.take i ++ [d] := by rw [List.take_add_one, hd]; rfl
  refine ⟨ρ2, g d, ρ2, hb, et_twBH ht rfl, fun hk => ⟨f d, ρ2, ρi, ev_twBH (he hk) rfl, Like.refl, hm, ?_, rfl, ?_⟩, fun hk => ⟨ρi, Like.refl, hm, rfl, ?_⟩⟩
  · rw [List.length_map]
    exact Nat.lt_of_le_of_lt (Nat.le_trans (List.length_filter_le _ _) (by rw [List.length_take]; omega)) hl
  · rw [tk, List.filter_append, List.map_append]
    simp [hk]
  · rw [tk, List.filter_append, List.map_append]
    simp [hk]
theorem tg_tpH {Y : Cx} {es : List Expr} {k : Nat} {l : List Tg} (hc : HotC Y) (h : PGs Y es (gsOf Y.K l)) (hn : (assignEach es Y.env).length = l.length := by rfl) (hst : (assignEach es Y.env).findIdx? (·.1) = none := by rfl) : PG Y (.Tuple es k pos) (gOf Y.K (.tp l)) := pg_tupH hc h hn hst
end
end VLH
end

section
set_option Elab.async false
set_option linter.all false
set_option maxRecDepth 100000
set_option maxHeartbeats 4000000
/-! a lambda handed to a def that calls it in a try -/
namespace VLH
open PySem PySem.Spec PyProof.Rows L2 HotX VL LamX
open L2H (HotC TurnH PIH PIEH HotC.at Hot1)
/-- the context of the lambda's body -/
abbrev lamCxN (X : Cx) (A : Around) (outer : List Env) (s : Shared) (H : Hp) (E : XK) (scope : Scope) (f c' : Addr) : Cx :=
  (lamCx X A outer s H E scope f c').wish fun e s' => wpAny (model X.prog X.w) (A.deeper (lamEnv X scope s.heap.objs.size f c')) (leaving (lamEnv X scope s.heap.objs.size f c') e) (fun _ s'' => L2N.CX X.prog X.w outer H s E e s'') (fun e' s'' => L2N.CX X.prog X.w outer H s E e' s'') s'
theorem takes_lam {X : Cx} {A : Around} {outer : List Env} {s : Shared} {H : Hp} {E : XK} {scope : Scope} {f c' : Addr} : L2N.Takes (lamCxN X A outer s H E scope f c') (fun cls d _ H => E cls d H) := L2N.takes_of rfl rfl rfl rfl
section
variable {X : Cx} {pins : List (Addr × Obj)} {σ : L2.St} {H HZ : Hp} {s s1 : Shared}
/-- x(), in the def that got the lambda -/
theorem pe_actN {CXg : CXT} {Eg : XK} {Ng : List Str} {qg : Str} {sg : Scope} {g f c' : Addr} {cdg pm ctv : Value} {params : Arguments} {body : Expr} {scope : Scope} {k i : Nat} {a : Str} {pn : List (Addr × Obj)} {xe : Value → Shared → Prop} {W : WX} {E : XK} {tb : TE} {p1 p2 : Pos}
    (I : Inv X pins σ H s) (L : LamS X.env.scope scope) (hf : s.heap.get? f = some (PySem.W.kla_obj "<lambda>" (X.env.qual ++ "<lambda>") params body scope (cloFrom X.env.cells scope.names []) pm c' ctv)) (hfn : H f = none) (hfr : f ∉ frs X.stack)
    (hbind : bindArgs (PySem.W.kla_fn "<lambda>" (X.env.qual ++ "<lambda>") params body scope (cloFrom X.env.cells scope.names []) pm (.ref c') ctv) ⟨[], []⟩ = pure [])
    (tk : L2N.Takes ((cxOf CXg X.prog X.w X.K X.mg X.base Ng qg sg g cdg X.A X.stack s H Eg).tr pn xe) W) (hW : ∀ cls d σ' H', E cls d H' → W cls d σ' H') (hr : Room (k + 1) (X.A.deeper (envOfC qg sg s.heap.objs.size g cdg)))
    (hbody : ∀ (A : Around) (outer : List Env) (s : Shared) (H : Hp), Room k (A.deeper (lamEnv X scope s.heap.objs.size f c')) → PE (lamCxN X A outer s H E scope f c') body tb)
    (hN : Ng[i]? = some a) (hv : Vis sg a) (hd : (a == ("__debug__" : Str)) = false := by decide) (hcd : (a == ("__classdict__" : Str)) = false := by decide) :
    PE ((cxOf CXg X.prog X.w X.K X.mg X.base Ng qg sg g cdg X.A X.stack s H Eg).tr pn xe) (.Call (.Name a p1) [] [] p2)
      (fun σZ HZ Q => σZ[i]? = some (some (.ref f)) ∧ HZ c' = some (CodeO c' (X.env.qual ++ "<lambda>")) ∧ tb σ HZ Q) := by
  refine ⟨fun pinsZ sZ σZ HZ Q IZ h => ?_⟩
  obtain ⟨hs, hc, ht⟩ := h
  refine wpAny_Call_Name_kw (thn ((pe_var (pos := p1) (i := i) hN hv hd hcd).run pinsZ sZ σZ HZ (fun v H1 => v = .ref f ∧ H1 = HZ) IZ ⟨.ref f, hs, rfl, rfl⟩) fun u s1 ⟨v, H1, I1, r1, q1⟩ => ?_)
  obtain ⟨ev, eH⟩ := q1
  subst ev
  rw [eH] at I1
  obtain rfl : u = Value.ref f := r1
  have of1 : s1.heap.get? f = some (PySem.W.kla_obj "<lambda>" (X.env.qual ++ "<lambda>") params body scope (cloFrom X.env.cells scope.names []) pm c' ctv) := I1.base.keep f _ hf hfn hfr (fun z => nomatch (show f ∈ ([] : List Addr) from z))
  refine PySem.W.callWith_F0 ⟨_, _, _, _, of1⟩ ?_
  have un : Un (frs X.stack) [] H HZ s.heap s1.heap := I1.base
  obtain ⟨⟨oc, vs, t, hoc, hdc, hvc⟩, _, _⟩ := I1.hok c' _ hc
  have rc : codeAny (model X.prog X.w) (X.A.deeper (envOfC qg sg s.heap.objs.size g cdg)) (.call (.ref f) ⟨[], []⟩) (CR (L2N.CX X.prog X.w) (envOfC qg sg s.heap.objs.size g cdg :: X.stack) X.prog X.w HZ s1 Q E) s1 := by
    refine PySem.W.kla_callFunE hr.depth of1 rfl L.co L.gen rfl ⟨c', oc, vs, t, rfl, hoc, hdc, hvc⟩ ?_
    rw [hbind]
    refine wpAny_pure (wpAny_newFunctionEnv (fun y hy => (L.own y hy).2) (fun y hy => absurd hy (by simp)) (fun h₁ hns hsb => ⟨I1.nolimit.fresh _ hsb, ?_⟩) L.kind)
    show codeAny _ _ (.expr body (lamEnv X scope s1.heap.objs.size f c')) _ _
    have kp : ∀ b o, s1.heap.get? b = some o → h₁.get? b = some o := fun b o e => hsb.extBut b o (Nat.ne_of_lt (Heap.lt_size e)) (Heap.get?_push_of_some _ e)
    have J0 : Inv (lamCx X (X.A.deeper (envOfC qg sg s.heap.objs.size g cdg)) (envOfC qg sg s.heap.objs.size g cdg :: X.stack) s1 HZ E scope f c') [] σ HZ { s1 with heap := h₁, toks := s1.toks + ([] : List (Str × Value)).length } :=
      lam_start2 I L I1.env0 hr.hd un hns kp
    have J : Inv (lamCxN X (X.A.deeper (envOfC qg sg s.heap.objs.size g cdg)) (envOfC qg sg s.heap.objs.size g cdg :: X.stack) s1 HZ E scope f c') [] σ HZ { s1 with heap := h₁, toks := s1.toks + ([] : List (Str × Value)).length } := J0.wish _
    refine PySem.W.kla_codeExpr (wpAny_mono ((hbody _ _ s1 HZ (hr.deeper _)).run [] _ _ HZ Q J ht) (fun v s' hq => ?_) fun e s' hq => hq)
    obtain ⟨w', H', J', rv, q⟩ := hq
    exact ⟨w', H', J'.os, J'.bare, J'.base, J'.hok, rv, q⟩
  have hx : Passes (L2N.CX X.prog X.w) ((cxOf CXg X.prog X.w X.K X.mg X.base Ng qg sg g cdg X.A X.stack s H Eg).tr pn xe) E := L2N.passes_call tk hW
  refine wpAny_call (codeAny_mono rc fun r s' hq => ?_)
  cases r with
  | error e => exact hx pinsZ σZ HZ s1 e s' I1 hq
  | ok fl =>
    cases fl with
    | ret u => exact I1.after hq
    | next => exact False.elim hq
    | brk => exact False.elim hq
    | cont => exact False.elim hq
end
/-- the def that calls what it got: TT: what it makes of the lambda's reading -/
def GivesToN (X : Cx) (Ng : List Str) (x : Str) (sg : Scope) (g : Addr) (cdg : Value) (bg : List Stmt) (a : Str) (q : Str) (TT : (XK → Hp → VK → Prop) → Hp → VK → Prop) : Prop :=
  ∀ (f c' : Addr) (s : Shared) (H : Hp) (Q : VK) (tl : XK → Hp → VK → Prop),
    (∀ (W : WX) (pn : List (Addr × Obj)) (xe : Value → Shared → Prop) (E : XK) (p1 p2 : Pos), L2N.Takes ((cxOf C8.CX0 X.prog X.w X.K X.mg X.base Ng x sg g cdg X.A X.stack s H C8.E0).tr pn xe) W → (∀ cls d σ' H', E cls d H' → W cls d σ' H') →
      PE ((cxOf C8.CX0 X.prog X.w X.K X.mg X.base Ng x sg g cdg X.A X.stack s H C8.E0).tr pn xe) (.Call (.Name a p1) [] [] p2) (fun σZ HZ Q => σZ[0]? = some (some (.ref f)) ∧ HZ c' = some (CodeO c' q) ∧ tl E HZ Q)) →
    H c' = some (CodeO c' q) → TT tl H Q → Room 2 X.A →
    ∃ t, PSs (cxOf C8.CX0 X.prog X.w X.K X.mg X.base Ng x sg g cdg X.A X.stack s H C8.E0).nox bg t ∧ t { nx := fun _ H' => Q .non H', rt := Q } (L2.start Ng [.ref f]) H
section
variable {X : Cx}
/-- x(lambda: body) -/
theorem pe_lamcallN {T : List (Addr × Str)} {TT : (XK → Hp → VK → Prop) → Hp → VK → Prop} {x a : Str} {g c P : Addr} {k : Nat} {pg : Arguments} {bg : List Stmt} {sg : Scope} {dV kV doc pm cdv ct oc : Value} {an od : Option Addr} {osl : Array (Option Value)} {Ng : List Str}
    {params : Arguments} {body : Expr} {scope : Scope} {t : XK → TE} {p lpos pos : Pos} (hg : Gl X x) (hm : X.mg x = some (.ref g)) (hk : PySem.W.keepIn X.K (.ref g) = true)
    (lk : X.K.lookup g = some ⟨oc, od, .func (PySem.W.fnOf x x pg bg sg dV kV doc pm an cdv ct), osl⟩) (hcg : PySem.W.codeIn X.K cdv x = true) (hb : L2.Binds X.K (PySem.W.fnOf x x pg bg sg dV kV doc pm an cdv ct) [a] []) (Sg : FnScope Ng [a] sg) (hNg : Ng[0]? = some a) (hva : Vis sg a)
    (hG : GivesToN X Ng x sg g cdv bg a (X.env.qual ++ "<lambda>") TT)
    (TB : TabB X.base X.mg c P) (hcode : X.env.code = .ref c) (hmT : (P, X.env.qual ++ "<lambda>") ∈ T) (hu : ∀ p ∈ T, p.1 = P → p.2 = X.env.qual ++ "<lambda>") (hr : Room (k + 2) X.A) (L : LamS X.env.scope scope) (hdef : defaultsOf params X.env = ([], []))
    (hbind : ∀ (q : Str) (cl : List (Str × Addr)) (pm cv ctv : Value), bindArgs (PySem.W.kla_fn "<lambda>" q params body scope cl pm cv ctv) ⟨[], []⟩ = pure [])
    (hbody : ∀ (A : Around) (outer : List Env) (s : Shared) (H : Hp) (E : XK) (f c' : Addr), Room k (A.deeper (lamEnv X scope s.heap.objs.size f c')) → PE (lamCxN X A outer s H E scope f c') body (t E))
    (hdb : (x == ("__debug__" : Str)) = false := by decide) (hd : (a == ("__debug__" : Str)) = false := by decide) (hcd : (a == ("__classdict__" : Str)) = false := by decide) :
    PE X (.Call (.Name x p) [.Lambda params body scope lpos] [] pos) (tLam T TT t) := by
  refine ⟨fun pins s σ H Q I h => ?_⟩
  obtain ⟨hT, h⟩ := h
  refine wpAny_Call_Name_kw (ld_glob I hg hm ?_ hdb)
  refine PySem.W.callWith_K (h₀ := X.base) I.ok.mod.kin hk ?_ (by rfl) (by rfl)
  show wpAny _ _ (spliced ((false, eval (.Lambda params body scope lpos) X.env) :: backTo pos (starEach [] X.env))) _ _ s
  refine Calls.spliced_cons (lam_make2 I TB hcode hmT hu hT hdef (L.has I.ok) fun f c' pm' ctv H1 s' I1 eN T1 hf hfn hfr hco => ?_)
  refine Calls.spliced_nil ⟨I1.kIn, ?_⟩
  have rc : codeAny (model X.prog X.w) X.A (.call (.ref g) ⟨[.ref f], []⟩) (CR C8.CX0 X.stack X.prog X.w H1 s' Q C8.E0) s' := by
    refine run_ofS (N := Ng) (ps := [a]) (us := [.ref f]) (vs := [.ref f]) lk hcg Sg hr I1.env0 (hb s' [.ref f] I1.kIn rfl) (.cons rfl .nil) rfl fun hr' => ?_
    obtain ⟨t', ht', hq'⟩ := hG f c' s' H1 Q (fun E H' Q' => t E σ H' Q') (fun W pn xe E p1 p2 tk hW => pe_actN (i := 0) I1 L hf hfn hfr (hbind _ _ _ _ _) tk hW hr' (fun A outer s H hr2 => hbody A outer s H E f c' hr2) hNg hva hd hcd) hco (h H1 eN T1) (hr.mono (by omega))
    exact ⟨t', ht'.nox, hq'⟩
  refine wpAny_call (codeAny_mono rc fun r s2 hq => ?_)
  cases r with
  | error e => exact (show False from hq).elim
  | ok fl =>
    cases fl with
    | ret u => exact I1.after hq
    | next => exact False.elim hq
    | brk => exact False.elim hq
    | cont => exact False.elim hq
end
theorem sok0 {K : PySem.W.Frag} {F : Hp} {O : Addr → Prop} {H : Hp} (fr : Ex F H) (od : ∀ a, O a → ∃ o, F a = some o) (tb : TB H) (ft : ∀ a o, F a = some o → NT o) : SOk K F O [] [] H :=
  ⟨rfl, fun i d h => by simp at h, fun i p ds h => by simp at h, fun i j p ds ds' h => by simp at h, fr, od, tb, ft⟩
/-- in any slots -/
theorem sokU {K : PySem.W.Frag} {F : Hp} {O : Addr → Prop} {H : Hp} {n : Nat} {σ : L2.St} (I : SOk K F O [] [] H) (h : σ.length = n) : SOk K F O (List.replicate n .un) σ H := by
  have no : ∀ {i : Nat} {s : Sl}, (List.replicate n Sl.un)[i]? = some s → s = .un := fun {i s} h => List.eq_of_mem_replicate (List.mem_of_getElem? h)
  exact ⟨by rw [h, List.length_replicate], fun i d h => (by have := no h; cases this), fun i p ds h => (by have := no h; cases this), fun i j p ds ds' h => (by have := no h; cases this), I.fr, I.od, I.tb, I.ft⟩
theorem owns_rep {n : Nat} {a : Addr} : ¬ owns (List.replicate n .un) a := fun ⟨ds, h⟩ => nomatch (List.eq_of_mem_replicate h)
/-- what the lambda does: r0; what the def answers: dW -/
def TTw (K : PySem.W.Frag) (r0 : Res) (dW : VL.D) : (XK → Hp → VK → Prop) → Hp → VK → Prop := fun tl H Q => ∃ (F : Hp) (O : Addr → Prop), SOk K F O [] [] H ∧
  (∀ E Q', (∀ H', SOk K F O [] [] H' → match r0 with
    | .ok d => ∀ v, Rep K (hid O H') v d → Q' v H'
    | .error e => ∀ cls dd, ErRep K (hid O H') cls dd e → E cls dd H') → tl E H Q') ∧
  ∀ v H', SOk K F O [] [] H' → Rep K (hid O H') v dW → Q v H'
def immutR : Res → Bool
  | .ok d => immut d
  | .error e => immutL (e.fs.map (·.2))
theorem RepF.hide {K : PySem.W.Frag} {H : Hp} {U U' : Addr → Prop} (h : ∀ a, ¬ U a → U' a → ∃ vs, H a = some (.lst vs)) : ∀ {v : List (Str × V)} {d : List (Str × VL.D)}, immutL (d.map (·.2)) = true → RepF K (hid U H) v d → RepF K (hid U' H) v d
  | _, _, _, .nil => .nil
  | _, _, m, .cons q r => by
    rw [List.map_cons] at m
    unfold immutL at m
    rw [Bool.and_eq_true] at m
    exact .cons (Rep.hide h m.1 q) (RepF.hide h m.2 r)
section
variable {X : Cx} {ρ : Lo}
/-- x(lambda: body), where the body reads data alone -/
theorem c_lamcall {r0 : Res} {dW : VL.D} {x a : Str} {g c P : Addr} {k : Nat} {pg : Arguments} {bg : List Stmt} {sg : Scope} {dV kV doc pm cdv ct oc : Value} {an od : Option Addr} {osl : Array (Option Value)} {Ng : List Str}
    {params : Arguments} {body : Expr} {scope : Scope} {p lpos pos : Pos} (him : immutR r0 = true) (hiw : immut dW = true) (hm : X.mg x = some (.ref g)) (hk : PySem.W.keepIn X.K (.ref g) = true)
    (lk : X.K.lookup g = some ⟨oc, od, .func (PySem.W.fnOf x x pg bg sg dV kV doc pm an cdv ct), osl⟩) (hcg : PySem.W.codeIn X.K cdv x = true) (hb : L2.Binds X.K (PySem.W.fnOf x x pg bg sg dV kV doc pm an cdv ct) [a] []) (Sg : FnScope Ng [a] sg) (hNg : Ng[0]? = some a) (hva : Vis sg a)
    (hG : GivesToN X Ng x sg g cdv bg a (X.env.qual ++ "<lambda>") (TTw X.K r0 dW))
    (TB : TabB X.base X.mg c P) (hcode : X.env.code = .ref c) (hmT : (P, X.env.qual ++ "<lambda>") ∈ lamT) (hu : ∀ p ∈ lamT, p.1 = P → p.2 = X.env.qual ++ "<lambda>") (hr : Room (k + 2) X.A)
    (hbody : ∀ (A : Around) (outer : List Env) (s : Shared) (H : Hp) (E : XK) (f c' : Addr), Room k (A.deeper (lamEnv X scope s.heap.objs.size f c')) → CQ (lamCxN X A outer s H E scope f c') (frz ρ) body fun r ρ' => r = r0 ∧ ρ' = frz ρ)
    (L : LamS X.env.scope scope) (hdef : defaultsOf params X.env = ([], [])) (hbind : ∀ (q : Str) (cl : List (Str × Addr)) (pm cv ctv : Value), bindArgs (PySem.W.kla_fn "<lambda>" q params body scope cl pm cv ctv) ⟨[], []⟩ = pure [])
    (hg : Gl X x := by rfl) (hdb : (x == ("__debug__" : Str)) = false := by decide) (hd : (a == ("__debug__" : Str)) = false := by decide) (hcd : (a == ("__classdict__" : Str)) = false := by decide) :
    CE X ρ (.Call (.Name x p) [.Lambda params body scope lpos] [] pos) dW ρ := by
  refine .of (pe_lamcallN (T := lamT) (t := fun E σ H Q => ∀ (A : Around) (outer : List Env) (s : Shared) (H0 : Hp) (f c' : Addr), Room k (A.deeper (lamEnv X scope s.heap.objs.size f c')) → tw (lamCxN X A outer s H0 E scope f c') body σ H Q)
    hg hm hk lk hcg hb Sg hNg hva hG TB hcode hmT hu hr L hdef hbind (fun A outer s H E f c' hr' => ⟨fun pins s1 σ H1 Q I h => h A outer s H f c' hr' pins s1 I⟩) hdb hd hcd) ⟨rfl, fun F O σ H Q I q => ⟨I.tb, fun H1 eN T1 => ?_⟩⟩
  have e1 : ExN H H1 := fun b o t h => eN b o h t.nt
  have I1 := I.ext e1 T1
  have hide : ∀ {H' : Hp}, SOk X.K F O ρ σ H' → ∀ a, ¬ UU O (frz ρ) a → UU O ρ a → ∃ vs, H' a = some (.lst vs) := fun {H'} J a n z => by
    rcases z with z | z
    · exact absurd (.inl z) n
    · exact J.ownH z
  refine ⟨hid (fun _ => False) H1, UU O ρ, sok0 hid_ex (fun a z => ?_) T1 (fun _ _ h => nt_hid h), fun E Q' hh A outer s H0 f c' hr' => ?_, fun v H' J rv => ?_⟩
  · obtain ⟨o, h1, t⟩ := I1.odU a z
    exact ⟨o, hid_of id h1⟩
  · have I2 := I1.frzAll.sup
    refine fun pins s1 J => hbody A outer s H0 E f c' hr' _ O σ H1 Q' (fun cls d _ H => E cls d H) I2 takes_lam (fun d ρ' v H' hR _ J' rv => ?_) (fun er ρ' H' cls dd hR J' re => ?_) pins s1 J
    · obtain ⟨hR, rfl⟩ := hR
      subst hR
      have e2 := Ex.frzSup J'
      have I3 := I1.ext e2 J'.tb
      have := hh H' (sok0 (fun a o h => by
        have t := nt_hid h
        exact e2 a o t (of_hid h).2) (fun a z => by
          obtain ⟨o, h1, t⟩ := I1.odU a z
          exact ⟨o, hid_of id h1⟩) J'.tb (fun _ _ h => nt_hid h))
      exact this v (Rep.hide (hide I3) him rv)
    · obtain ⟨hR, rfl⟩ := hR
      subst hR
      have e2 := Ex.frzSup J'
      have I3 := I1.ext e2 J'.tb
      have := hh H' (sok0 (fun a o h => by
        have t := nt_hid h
        exact e2 a o t (of_hid h).2) (fun a z => by
          obtain ⟨o, h1, t⟩ := I1.odU a z
          exact ⟨o, hid_of id h1⟩) J'.tb (fun _ _ h => nt_hid h))
      obtain ⟨r1, r2⟩ := re
      refine this cls dd ⟨r1, ?_⟩
      rcases r2 with r2 | ⟨aa, fv, h7, h8, h9⟩
      · exact .inl r2
      · have t := nt_hid h8
        refine .inr ⟨aa, fv, h7, hid_of (fun z => ?_) (of_hid h8).2, RepF.hide (hide I3) him h9⟩
        obtain ⟨n8, q8⟩ := of_hid h8
        obtain ⟨vs, e⟩ := hide I3 aa n8 z
        rw [e] at q8
        cases q8
  · have e2 : ExN H1 H' := fun a o t h => J.fr a o (hid_of id h)
    exact q v H' (I1.ext e2 J.tb) rv
end
/-- try: a() / except CS as n: suite; return ret -/
theorem word_gives {X : Cx} {Ng : List Str} {x a e n q ret : Str} {sg : Scope} {g CS : Addr} {cdg : Value} {b₀ : Stmt} {suite : List Stmt} {iE : Nat} {r0 : Res} {dW : VL.D} {j : Nat} {p1 p2 p3 p4 p7 p8 p9 p10 : Pos}
    (hge : sg.names.lookup e = some .globalImplicit) (hme : X.mg e = some (.ref CS)) (hde : (e == ("__debug__" : Str)) = false) (h0 : ∀ f : Addr, (L2.start Ng [V.ref f])[0]? = some (some (V.ref f))) (hN : Ng.Nodup) (hi : Ng[iE]? = some n) (hln : sg.names.lookup n = some .cell)
    (hok : ∀ d, r0 = .ok d → dW = .str ret)
    (herr : ∀ er, r0 = .error er → PySem.W.exmOne X.K (.ref er.C) (.ref CS) = some true ∧ ∀ (s : Shared) (H : Hp) (aE : Addr) (oe : Obj) (dd : Option Addr) (pn : List (Addr × Obj)), L2N.Zn (.ref er.C) dd oe → (∃ vs, oe.data = .fields vs) → (dd = none → er.fs = []) →
      CSs ((cxOf C8.CX0 X.prog X.w X.K X.mg X.base Ng x sg g cdg X.A X.stack s H C8.E0).nox.suite aE ((aE, oe) :: pn)) ((List.replicate Ng.length Sl.un).set iE (.dat (exD aE dd er.fs))) (b₀ :: suite) { nx := fun _ => False, rt := fun d _ => d = dW }) :
    GivesToN X Ng x sg g cdg [.Try [.Expr (.Call (.Name a p1) [] [] p2) p3] [.ExceptHandler (some (.Name e p4)) (some n) (b₀ :: suite) p7] [] [] p8, .Return (some (.Constant (.str ret) j p9)) p10] a q (TTw X.K r0 dW) := by
  intro f c' s H Q tl act hc h hr
  obtain ⟨F, O, I, htl, hQ⟩ := h
  generalize hY : (cxOf C8.CX0 X.prog X.w X.K X.mg X.base Ng x sg g cdg X.A X.stack s H C8.E0).nox = Y
  have hgl : Gl Y e := by rw [← hY]; exact hge
  have hYK : Y.K = X.K := by rw [← hY]; rfl
  have hYN : Y.N = Ng := by rw [← hY]; rfl
  have eu : ∀ a, UU O (List.replicate Ng.length .un) a ↔ O a := fun a => ⟨fun z => z.elim id fun z => absurd z owns_rep, .inl⟩
  refine ⟨_, pss_cons (ps_try_asC (X := Y) (c := .ref CS) (i := iE) (Wout := fun _ _ _ _ => False)
      (tb := fun W D σ HZ => ∃ Ech : XK, (∀ cls d σ' H', Ech cls d H' → W cls d σ' H') ∧ σ[0]? = some (some (.ref f)) ∧ HZ c' = some (CodeO c' q) ∧ tl Ech HZ fun _ H' => D.nx σ H')
      (ts := fun aE cls dd D σ H => ∀ oe pn, L2N.Zn cls dd oe → (∃ vs, oe.data = .fields vs) → twss (Y.suite aE ((aE, oe) :: pn)) (b₀ :: suite) D σ H)
      (by rw [← hY]; rfl) (by rw [← hY]; rfl) (by rw [hYN]; exact hN) (by rw [hYN]; exact hi) (by rw [← hY]; exact hln) (by rw [← hY]; rfl) ⟨hgl, hde, .inl (by rw [← hY]; exact hme)⟩ (fun _ _ x => by
        obtain ⟨_, _, _, _, _, _, _, _, _, _, _, _, _, _, _, _, z⟩ := x
        exact z.elim)
      (fun W pn xe tk _ => ?_) (fun aE oe cls dd pn hz hf => ⟨fun pins s σ H D I h => h oe pn hz hf pins s I⟩)) (pss_one (ps_ret (pe_str (x := ret)))), ?_⟩
  · refine pss_one ⟨fun pins s' σ H' D I h' => ?_⟩
    obtain ⟨Ech, hW, h1, h2, h3⟩ := h'
    subst hY
    have hp := act W pn xe Ech p1 p2 tk hW
    exact (ps_expr (pos := p3) hp).run pins s' σ H' D I ⟨h1, h2, h3⟩
  · refine ⟨fun cls dd H' => ∃ er, r0 = .error er ∧ SOk X.K F O [] [] H' ∧ ErRep X.K (hid O H') cls dd er, fun cls dd σ' H' ⟨er, e1, J, re⟩ => ?_, h0 f, hc, htl _ _ fun H' J => ?_⟩
    · obtain ⟨hx, hsu⟩ := herr er e1
      have ec : cls = .ref er.C := re.1
      subst ec
      refine ⟨true, by rw [hYK]; exact hx, fun _ aE na oe pn hz hf pins s2 I2 => ?_, fun z => Bool.noConfusion z⟩
      have hlen : (σ'.set iE (some (.ref aE))).length = Ng.length := by
        have := I2.len
        rw [this]
        show Y.N.length = _
        rw [hYN]
      have hdd : dd = none → er.fs = [] := fun z => by
        obtain ⟨_, ⟨z1, z2⟩ | ⟨d1, f1, z1, z2, z3⟩⟩ := re
        · exact z1
        · rw [z] at z1; cases z1
      have hsl : σ'.length = Ng.length := by rw [List.length_set] at hlen; exact hlen
      have S0 : SOk X.K F O (List.replicate Ng.length .un) σ' H' := sokU J hsl
      have S1 := S0.set (i := iE) (v := .ref aE) (d := exD aE dd er.fs) (by
        rw [hid_congr eu]
        exact rep_exD (C := er.C) (cls := .ref er.C) re)
      subst hY
      refine hsu s H aE oe dd pn hz hf hdd F O _ H' _ S1 ⟨fun _ _ _ z _ => z.elim, fun d ρ' σ2 H2 v hd J2 rv => ?_, fun _ _ _ z _ => z.elim, fun _ _ _ z _ => z.elim, fun _ _ _ _ => False, fun _ _ x => ?_, fun _ _ _ _ _ _ z => z.elim⟩ pins s2 I2
      · subst hd
        exact hQ v H2 (sok0 J2.fr J2.od J2.tb J2.ft) (rv.mono (ex_hid fun a o _ n h => ⟨fun z => n (.inl z), h⟩))
      · obtain ⟨_, _, _, _, _, _, _, _, _, _, _, _, _, _, _, _, z⟩ := x
        exact z.elim
    · cases r0 with
      | ok d =>
        have e1 := hok d rfl
        subst e1
        exact fun v rv => hQ _ _ J (.str ret)
      | error er => exact fun cls dd re => ⟨er, rfl, J, re⟩
end VLH
end

section
set_option Elab.async false
set_option linter.all false
set_option maxRecDepth 100000
set_option maxHeartbeats 4000000
/-! wide ranges, dict displays, defs that hand out a new list -/
namespace VL
open PySem PySem.Spec PyProof.Rows L2
theorem turn_long {P : Program} {w : World} {K : PySem.W.Frag} {tg : Expr} (it : Addr) (lo : Int) (n : Nat) : Turn P w K tg (Itr lo n) [it] it (fun i h => IsLongIter h it (lo + (i : Nat) * 1) ((n : Int) - (i : Nat)) 1) where
  mem := by simp
  obj := fun i h st b hb => by
    have e : b = it := by simpa using hb
    subst e
    exact ⟨_, st, fun v z => by
      have z' : Data.fields _ = Data.cell v := z
      cases z'⟩
  keep := fun i h h' st k => k it (by simp) _ st
  item := by
    intro X hP hw hK hc i pins s σ H E I hf st hg
    subst hP hw hK
    obtain ⟨f0, f1, f2, f3, f4, f5⟩ := hf it (by simp)
    have W := Walks.longrange (prog := X.prog) (w := X.w) (I.ok.hd hc) it lo 1 n
    refine W.item i s _ _ hg st fun v h' tk hv st' kk => ?_
    obtain ⟨t, rfl⟩ := hv
    have I1 : Inv X pins σ H { s with heap := h', toks := tk } := I.turned (fun b o hb e => kk b o (by simpa using hb) e) f0 f1 f3 f4 f5
    refine ⟨_, rfl, go_of (s := { s with heap := h', toks := tk }) (n := "longrange_iterator") st' rfl rfl (by decide) ⟨.int (lo + i), H, I1, ⟨t, ?_⟩, ⟨rfl, rfl⟩, st', fun b hb => (hf b hb).1⟩⟩
    rw [Int.mul_one]
  done := by
    intro X hP hw hK hc i pins s σ H E I hf st hg
    subst hP hw hK
    obtain ⟨f0, f1, f2, f3, f4, f5⟩ := hf it (by simp)
    exact wpAny_pyNext_long_end (I.ok.hd hc) st (by have : n ≤ i := hg; omega) fun h' eb => ⟨rfl, I.turned (t' := s.toks) (fun b o hb e => eb b o hb e) f0 f1 f3 f4 f5⟩
  self := fun _ _ _ _ _ st h => wpAny_pyIter_longiter st h
section
variable {X : Cx} {tg a b e c : Expr} {es : List Expr} {p pos : Pos} {ρ ρ1 ρ2 : Lo} {i j : Int} {d : D} {ds es' : List D} {W : WE} {rest : List Stmt} {n x : Str}
def iRng2W (ta : TA) : TI := fun σ H R => ta σ H fun vs H1 => ∃ i j : Int, vs = [.int i, .int j] ∧ R (Itr i (j - i).toNat) H1
theorem range_itW {pins : List (Addr × Obj)} {σ : L2.St} {H : Hp} {s : Shared} {R : It → Hp → Prop} {E : Value → Shared → Prop} {lo hi : Int} {t u v : Tok} {tk : Nat} (I : Inv X pins σ H s)
    (q : R (Itr lo (hi - lo).toNat) H) : wpAny (model X.prog X.w) X.A (pyIter (.ref s.heap.objs.size)) (PIE X pins σ tg R) E { s with heap := s.heap.push { cls := .type "range", data := .fields #[.int lo t, .int hi u, .int 1 v] }, toks := tk } := by
  have I1 : Inv X pins σ H { s with heap := s.heap.push { cls := .type "range", data := .fields #[.int lo t, .int hi u, .int 1 v] }, toks := tk } := I.kept fun b o e => Heap.get?_push_of_some _ e
  have e1 : lo + ((0 : Nat) : Int) * 1 = lo := by simp
  have e2 : (((hi - lo).toNat : Nat) : Int) - ((0 : Nat) : Int) = Builtin.Range.rangeSize lo hi 1 := by rw [rangeSize_one]; split <;> omega
  have fp : ∀ b ∈ [(s.heap.push { cls := .type "range", data := .fields #[.int lo t, .int hi u, .int 1 v] }).objs.size], FpOk X pins H b := fun b hb => by
    have e : b = (s.heap.push { cls := .type "range", data := .fields #[.int lo t, .int hi u, .int 1 v] }).objs.size := by simpa using hb
    subst e
    exact I1.fpOk (Nat.le_refl _) (I1.hok.fresh (Nat.le_refl _))
  by_cases hsm : Builtin.Range.small lo hi 1 = true
  · refine wpAny_pyIter_range (IsRange.new ..) hsm ?_
    refine ⟨(s.heap.push { cls := .type "range", data := .fields #[.int lo t, .int hi u, .int 1 v] }).objs.size, [(s.heap.push { cls := .type "range", data := .fields #[.int lo t, .int hi u, .int 1 v] }).objs.size], _, _, H, rfl,
      I1.kept (t' := tk) fun b o e => Heap.get?_push_of_some _ e, turn_range _ lo (hi - lo).toNat, ?_, fp, q⟩
    show IsRangeIter _ _ (lo + ((0 : Nat) : Int) * 1) ((((hi - lo).toNat : Nat) : Int) - ((0 : Nat) : Int)) 1
    rw [e1, e2]
    exact Heap.get?_push_size _ rfl
  · refine wpAny_pyIter_longrange (IsRange.new ..) (by simpa using hsm) ?_
    refine ⟨(s.heap.push { cls := .type "range", data := .fields #[.int lo t, .int hi u, .int 1 v] }).objs.size, [(s.heap.push { cls := .type "range", data := .fields #[.int lo t, .int hi u, .int 1 v] }).objs.size], _, _, H, rfl,
      I1.kept (t' := tk) fun b o e => Heap.get?_push_of_some _ e, turn_long _ lo (hi - lo).toNat, ?_, fp, q⟩
    show IsLongIter _ _ (lo + ((0 : Nat) : Int) * 1) ((((hi - lo).toNat : Nat) : Int) - ((0 : Nat) : Int)) 1
    rw [e1, e2]
    exact Heap.get?_push_size _ rfl
theorem pi_range2W {ta : TA} (hg : Gl X "range") (hm : X.mg "range" = none) (ha : PA X [a, b] ta) (hs : starEach [a, b] X.env = [(false, eval a X.env), (false, eval b X.env)] := by rfl) (hs2 : starEach [b] X.env = [(false, eval b X.env)] := by rfl) :
    PI X tg (.Call (.Name "range" p) [a, b] [] pos) (iRng2W ta) := by
  refine ⟨fun pins s σ H R I h => ?_⟩
  refine Call_ (ld_blt I hg hm boot_range (PyProof.Rows.callWith_type1 (thn (ha.run pos pins s σ H _ I h) fun us s1 ⟨vs, H1, I1, r1, q1⟩ => ?_) (by rw [hs, hs2]) (by rw [hs2]; rfl)))
  obtain ⟨i, j, e, q⟩ := q1
  subst e
  cases r1 with
  | cons r rr =>
    cases rr with
    | cons r' rr =>
      cases rr
      obtain ⟨t, rfl⟩ := r
      obtain ⟨t', rfl⟩ := r'
      exact call_range_2 (range_itW I1 q)
/-- range(a, b), of any ints -/
theorem ci_range2W (hm : X.mg "range" = none) (ha : CE X ρ a (.int i) ρ1) (hb : CE X ρ1 b (.int j) ρ2) (hg : Gl X "range" := by rfl) (hs : starEach [a, b] X.env = [(false, eval a X.env), (false, eval b X.env)] := by rfl) (hs2 : starEach [b] X.env = [(false, eval b X.env)] := by rfl)
    (he : starEach [a, b] X.env = (false, eval a X.env) :: starEach [b] X.env := by rfl) (he2 : starEach [b] X.env = (false, eval b X.env) :: starEach [] X.env := by rfl) : CI X ρ tg (.Call (.Name "range" p) [a, b] [] pos) (rangeD i (j - i).toNat) ρ2 :=
  ⟨_, pi_range2W hg hm pa_tw hs hs2, hb.1.trans ha.1, fun F O σ H R I k => (d_cons ha (d_cons hb d_nil he2) he).2 F O σ H _ I fun vs H1 J r => by
    obtain ⟨v, w, rfl, ru, rw'⟩ := two_of r
    cases ru
    cases rw'
    exact ⟨i, j, rfl, k _ H1 J wk_range⟩⟩
/-- {} -/
theorem c_dict0 : CE X ρ (.Dict [] [] pos) (.dic []) ρ := .of pe_dnewK ⟨rfl, fun F O σ H Q I q p hp => q _ _ (I.new hp) (.dic (I.newHid hp) .nil)⟩
/-- {k: name} -/
theorem c_dict1 (s : Nat) {k : Int} {jj} {kp : Pos} (hd : ρ[s]? = some (.dat d)) (hN : X.N[s]? = some n := by rfl) (hv : Vis X.env.scope n := by first | exact Or.inl rfl | exact Or.inr (Or.inl rfl) | exact Or.inr (Or.inr rfl))
    (h1 : (n == ("__debug__" : Str)) = false := by decide) (h2 : (n == ("__classdict__" : Str)) = false := by decide) : CE X ρ (.Dict [some (.Constant (.int k) jj kp)] [.Name n p] pos) (.dic [(.inl k, d)]) ρ :=
  .of (pe_disp (pps_cons pe_int (pe_var (i := s) hN hv h1 h2) pps_nil) rfl rfl (by simp) (by show 1 ≤ 15; decide)) ⟨rfl, fun F O σ H Q I q p hp => by
    obtain ⟨v, e1, r1⟩ := I.dat s d hd
    refine ⟨v, e1, upd_same, [(.inl k, v)], rfl, by simp, ?_⟩
    have e : upd (upd H p (.dK [])) p (.dK (mergeK [] [(.inl k, v)])) = upd H p (.dK [(.inl k, v)]) := upd_upd
    rw [e]
    exact q _ _ (I.new hp) (.dic (I.newHid hp) (.cons (r1.mono (ex_new hp)) .nil))⟩
end
/-! ### a def that hands out a new list -/
def spN (K : PySem.W.Frag) (A : List D → List D → Prop) : Sp := fun vs H Q _ => ∃ (U : Addr → Prop) (ds es : List D), (∀ a, U a → ∃ o, H a = some o ∧ NT o) ∧ TB H ∧ Reps K (hid U H) vs ds ∧ A ds es ∧
  ∀ p ws H1, ExN H H1 → TB H1 → H1 p = none → Reps K (hid U H1) ws es → Q (.ref p) (upd H1 p (.lst ws))
structure FnN (P : Program) (w : World) (K : PySem.W.Frag) (mg : Str → Option Value) (base : Heap) (k : Nat) (x : Str) (A : List D → List D → Prop) : Prop where
  ex : ∃ f fd ps, FnOk P w K mg base (L2N.CX P w) k f fd ps (spN K A) ∧ mg x = some (.ref f) ∧ PySem.W.keepIn K (.ref f) = true ∧ Binds K fd ps []
theorem n_call {X : Cx} {e : Expr} {es : List Expr} {ρ ρ1 : Lo} {p pos : Pos} {x : Str} {k : Nat} {ds es' : List D} {A : List D → List D → Prop} (Fn : FnN X.prog X.w X.K X.mg X.base k x A) (hr : Room k X.A) (ha : CD X ρ (e :: es) ds ρ1) (hA : A ds es') (hg : Gl X x := by rfl) (hdb : (x == ("__debug__" : Str)) = false := by decide)
    (he : starEach (e :: es) X.env = (false, eval e X.env) :: starEach es X.env := by rfl) (hpl : (backTo pos (starEach es X.env)).any (·.1) = false := by rfl) : CN X ρ (.Call (.Name x p) (e :: es) [] pos) es' ρ1 := by
  obtain ⟨f, fd, ps, hF, hm, hk, hb⟩ := Fn.ex
  refine .of (pe_call hF hr hg hm hk hb .nil passLN pa_tw hdb he hpl) ⟨ha.1, fun F O σ H Q I q => ha.2 F O σ H _ I fun vs H1 J r => ?_⟩
  rw [List.append_nil]
  exact ⟨UU O ρ1, ds, es', J.odU, J.tb, r, hA, fun p ws H2 e tb hp rs => q p ws H2 (J.ext e tb) hp rs⟩
/-- a body of two statements: s1; return e, e a new list -/
theorem fn_new2 {P : Program} {w : World} {K : PySem.W.Frag} {mg : Str → Option Value} {base : Heap} {k : Nat} {x : Str} {st s1 : Stmt} {e : Expr} {pos : Pos} {f : Addr} {fd : FuncData} {N ps : List Str} {A : List D → List D → Prop} (Fu : Fun K x x st f fd) (Sc : FnScope N ps (defScope st)) (hb : Binds K fd ps []) (hm : mg x = some (.ref f)) (hlen : ∀ ds r, A ds r → ds.length = ps.length)
    (hst : defBody st = [s1, .Return (some e) pos])
    (hbody : ∀ (cdv : Value) (A' : Around) (outer : List Env) (s : Shared) (H : Hp) (E : XK), Room k (cx P w K mg base N x st f cdv A' outer s H E).A → Bd (cx P w K mg base N x st f cdv A' outer s H E) → ∀ ds es, A ds es →
      ∃ t, PS (cx P w K mg base N x st f cdv A' outer s H E) s1 t ∧ ∀ (F : Hp) (O : Addr → Prop) (σ : L2.St) (H1 : Hp) (D : Ends), SOk K F O (ds.map .dat ++ List.replicate (N.length - ps.length) .un) σ H1 →
        (∀ ρ' ρ2 σ' H', CN (cx P w K mg base N x st f cdv A' outer s H E) ρ' e es ρ2 → SOk K F O ρ' σ' H' → D.nx σ' H') → t D σ H1) : FnN P w K mg base (k + 1) x A := by
  refine ⟨f, fd, ps, Fun.okXN Fu Sc (fun vs H Q E h => ?_) (fun cdv A' outer s H vs Q E hr h => ?_), hm, Fu.kp, hb⟩
  · obtain ⟨U, ds, es, _, _, r, a, _⟩ := h
    rw [r.length]
    exact hlen ds es a
  · obtain ⟨U, ds, es, od, tb, r, a, q⟩ := h
    have hl : vs.length = ps.length := by rw [r.length]; exact hlen ds es a
    obtain ⟨t, hp, ht⟩ := hbody cdv A' outer s H E hr (bd_cx Sc.nd) ds es a
    rw [start_eq hl, hst]
    refine ⟨_, pss_cons hp (pss_one (ps_ret pe_tw)), ?_⟩
    have I0 := args_ok r od tb
    refine ht _ U _ H _ (I0.more _) fun ρ' ρ2 σ' H' hc J => ?_
    exact hc.2 _ U σ' H' _ J fun p ws H1 J1 hp rs => q p ws H1 (fun b o t h => J1.fr b o (hid_of owns_dats h)) J1.tb hp (rs.mono (ex_hid fun b o _ n h => ⟨fun z => n (.inl z), h⟩))
/-- name = [..]; return e -/
theorem ps_lcF2 {X : Cx} {ρ ρ1 ρ2 : Lo} {elt tg iter e : Expr} {ifs : List Expr} {scope : Scope} {es es2 : List D} {y : Str} {py pos spos : Pos} (i : Nat) (h : CL X ρ elt tg iter ifs scope es ρ1) (hc : CN X (ρ1.set i (.dat (.lst es))) e es2 ρ2) (hi : X.N[i]? = some y := by rfl) (hx : X.env.scope.names.lookup y = some .local := by rfl)
    (hk : X.env.scope.kind = .function := by rfl) (hli : (py.line == pos.line) = true := by rfl) (ha : (scope.names.any fun (n, k) => n == y && (k == .local || k == .cell)) = false := by rfl) :
    ∃ t, PS X (.Assign [.Name y py] (.ListComp elt [⟨tg, iter, ifs, 0⟩] scope pos) spos) t ∧ ∀ (F : Hp) (O : Addr → Prop) (σ : L2.St) (H1 : Hp) (D : Ends), SOk X.K F O ρ σ H1 → (∀ ρ' ρ2 σ' H', CN X ρ' e es2 ρ2 → SOk X.K F O ρ' σ' H' → D.nx σ' H') → t D σ H1 := by
  obtain ⟨tl, _, h2, h3⟩ := h.ex
  exact ⟨_, h2 i y py pos spos hi hx (sw_true hk hx hli ha), fun F O σ H E I k => h3.2 F O σ H _ I fun q vs H1 J hp rv => k _ _ _ _ hc ((J.new hp).set (.lst (J.newHid hp) (rv.mono (ex_new hp))))⟩
theorem cutD_take (xs : List D) (k : Nat) : cutD xs none (some (k : Nat)) = xs.take k := by
  unfold cutD
  rw [HT.sIx_none, HT.sIx_nat, List.drop_zero, Nat.sub_zero]
  by_cases h : k ≤ xs.length
  · rw [Nat.min_eq_left h]
  · rw [Nat.min_eq_right (by omega), List.take_length, List.take_of_length_le (by omega)]
theorem cutD_drop (xs : List D) (k : Nat) : cutD xs (some (k : Nat)) none = xs.drop k := by
  unfold cutD
  rw [HT.sIx_none, HT.sIx_nat]
  by_cases h : k ≤ xs.length
  · rw [Nat.min_eq_left h]
    exact List.take_of_length_le (by rw [List.length_drop]; omega)
  · rw [Nat.min_eq_right (by omega), List.drop_length, List.take_nil, List.drop_of_length_le (by omega)]
end VL
end

section
set_option Elab.async false
set_option linter.all false
set_option maxRecDepth 100000
set_option maxHeartbeats 4000000
/-! expressions of several results (what is drawn is told loosely), nothing raised -/
namespace VL
open PySem PySem.Spec PyProof.Rows L2
def EVQ (K : PySem.W.Frag) (t : TE) (ρ : Lo) (R : D → Lo → Prop) : Prop :=
  ∀ F O σ H (Q : VK), SOk K F O ρ σ H → (∀ d ρ' v H', R d ρ' → owns ρ' = owns ρ → SOk K F O ρ' σ H' → Rep K (hid (UU O ρ') H') v d → Q v H') → t σ H Q
def ETQ (K : PySem.W.Frag) (t : TT) (ρ : Lo) (R : Bool → Lo → Prop) : Prop :=
  ∀ F O σ H (Q : Bool → Hp → Prop), SOk K F O ρ σ H → (∀ b ρ' H', R b ρ' → owns ρ' = owns ρ → SOk K F O ρ' σ H' → Q b H') → t σ H Q
def QE (X : Cx) (ρ : Lo) (e : Expr) (R : D → Lo → Prop) : Prop := EVQ X.K (tw X e) ρ R
def QT (X : Cx) (ρ : Lo) (e : Expr) (R : Bool → Lo → Prop) : Prop := ETQ X.K (twT X e) ρ R
def QW (X : Cx) (ρ : Lo) (e : Expr) (R : Bool → Lo → Prop) : Prop := ETQ X.K (twW X e) ρ R
section
variable {X : Cx} {e a b c tg : Expr} {es rest' : List Expr} {p pos : Pos} {ρ ρ1 ρ2 : Lo} {i j : Int} {d : D} {ds es' : List D} {W : WE} {rest A B : List Stmt} {n m x : Str} {R R' : D → Lo → Prop} {Rb Rb' : Bool → Lo → Prop} {k : Nat} {S : Spec} {q : Addr}
theorem QE.imp (h : QE X ρ e R) (i : ∀ d ρ', R d ρ' → R' d ρ') : QE X ρ e R' := fun F O σ H Q I qq => h F O σ H Q I fun d ρ' v H' r o J rv => qq d ρ' v H' (i _ _ r) o J rv
theorem CE.qe (h : CE X ρ e d ρ1) (r : R d ρ1) : QE X ρ e R := fun F O σ H Q I qq => h.2 F O σ H Q I fun v H' J rv => qq d ρ1 v H' r h.1 J rv
theorem CT.qt {k : Bool} (h : CT X ρ e k ρ1) (r : Rb k ρ1) : QT X ρ e Rb := fun F O σ H Q I qq => h.2 F O σ H Q I fun H' J => qq k ρ1 H' r h.1 J
theorem QT.of {t : TT} (hp : PT X e t) (h : ETQ X.K t ρ Rb) : QT X ρ e Rb := fun F O σ H Q I qq pins s J => hp.run pins s σ H Q J (h F O σ H Q I qq)
theorem QW.of {t : TT} (hp : PW X e t) (h : ETQ X.K t ρ Rb) : QW X ρ e Rb := fun F O σ H Q I qq wh pins s J => hp.run wh pins s σ H Q J (h F O σ H Q I qq)
/-- a value that is a truth, as a test -/
theorem qt_val (h : QE X ρ e fun d ρ' => ∃ b, d = .bl b ∧ Rb b ρ') (he : ∀ whole, isTrue e X.env whole = (do let v ← whole; standAt e.pos; holding [v] (truthy v)) := by intro _; rfl) : QT X ρ e Rb :=
  .of (pt_val pe_tw he) fun F O σ H Q I q => h F O σ H _ I fun d ρ' v H' ⟨b, e, r⟩ o J rv => by
    subst e
    cases rv
    exact ⟨b, rfl, q b ρ' H' r o J⟩
theorem qt_not (h : QT X ρ a fun b ρ' => Rb (!b) ρ') : QT X ρ (.UnaryOp .Not a pos) Rb := .of (pt_not pt_tw) fun F O σ H Q I q => h F O σ H _ I fun b ρ' H' r o J => q _ ρ' H' r o J
theorem qt_w (h : QW X ρ e Rb) : QT X ρ e Rb := .of (PW.pt pw_tw) h
theorem qw_or1 (h : QT X ρ a Rb) : QW X ρ (.BoolOp .Or [a] pos) Rb := .of (pw_or1 pt_tw) h
theorem qw_or (ha : QT X ρ a fun k ρ1 => (k = true → Rb true ρ1) ∧ (k = false → QW X ρ1 (.BoolOp .Or (b :: rest') pos) Rb)) : QW X ρ (.BoolOp .Or (a :: b :: rest') pos) Rb :=
  .of (pw_or pt_tw pw_tw) fun F O σ H Q I q => ha F O σ H _ I fun k ρ1 H1 ⟨r1, r2⟩ o J => by
    cases k with
    | true => rw [if_pos rfl]; exact q true ρ1 H1 (r1 rfl) o J
    | false => rw [if_neg Bool.false_ne_true]; exact r2 rfl F O σ H1 Q J fun b ρ2 H2 r o2 J2 => q b ρ2 H2 r (o2.trans o) J2
theorem qw_and1 (h : QT X ρ a Rb) : QW X ρ (.BoolOp .And [a] pos) Rb := .of (pw_and1 pt_tw) h
theorem qw_and (ha : QT X ρ a fun k ρ1 => (k = false → Rb false ρ1) ∧ (k = true → QW X ρ1 (.BoolOp .And (b :: rest') pos) Rb)) : QW X ρ (.BoolOp .And (a :: b :: rest') pos) Rb :=
  .of (pw_and pt_tw pw_tw) fun F O σ H Q I q => ha F O σ H _ I fun k ρ1 H1 ⟨r1, r2⟩ o J => by
    cases k with
    | false => rw [if_neg Bool.false_ne_true]; exact q false ρ1 H1 (r1 rfl) o J
    | true => rw [if_pos rfl]; exact r2 rfl F O σ H1 Q J fun b ρ2 H2 r o2 J2 => q b ρ2 H2 r (o2.trans o) J2
/-- if, the test of several outcomes -/
theorem css_ifQ (hc : QT X ρ c fun k ρ1 => (k = true → CSs X ρ1 A { W with nx := fun ρ' => CSs X ρ' rest W }) ∧ (k = false → CSs X ρ1 B { W with nx := fun ρ' => CSs X ρ' rest W })) : CSs X ρ (.If c A B pos :: rest) W :=
  css_of (ps_if pt_tw pss_tw pss_tw) fun F O σ H E I r => hc F O σ H _ I fun k ρ1 H1 ⟨h1, h2⟩ o J => by
    cases k with
    | true => rw [if_pos rfl]; exact h1 rfl F O σ H1 E J r
    | false => rw [if_neg Bool.false_ne_true]; exact h2 rfl F O σ H1 E J r
theorem css_asgD (i : Nat) (B : Bdn X) (he : QE X ρ e fun d ρ1 => CSs X (ρ1.set i (.dat d)) rest W) (hi : X.N[i]? = some n := by rfl) (hx : Loc X.env.scope n := by first | exact Or.inl rfl | exact Or.inr rfl)
    (hs : swapsWith e (some (.Name n p)) pos.line X.env = pure false := by rfl) (hf : X.fn n = true ∨ X.env.scope.names.lookup n = some .local := by first | exact .inl rfl | exact .inr rfl) : CSs X ρ (.Assign [.Name n p] e pos :: rest) W :=
  css_of (ps_set B.nd hi hx pe_tw hs hf) fun F O σ H E I r => he F O σ H _ I fun d ρ1 v H1 k o J rv => r.nx _ _ _ k (J.set rv)
theorem css_tupD {T : Tg} (he : QE X ρ e fun d ρ1 => ∃ ρ2, Bind T d ρ1 ρ2 ∧ CSs X ρ2 rest W) (hg : PG X tg (gOf X.K T)) (hs : swapsWithSole [tg] e pos.line X.env = pure false := by rfl) (hw : swappedStores [tg] e X.env = pure none := by rfl)
    (h1 : (assignEach [tg] X.env).map (·.2) = [assign tg X.env] := by rfl) : CSs X ρ (.Assign [tg] e pos :: rest) W := css_of (ps_asg pe_tw hg hs hw h1) fun F O σ H E I r => he F O σ H _ I fun d ρ1 v H1 ⟨ρ2, hb, k⟩ o J rv => hb.run J rv fun σ' L _ _ => r.nx _ _ _ k L
theorem css_retD (he : QE X ρ e fun d ρ1 => W.rt d ρ1) : CSs X ρ (.Return (some e) pos :: rest) W := css_of (ps_ret pe_tw) fun F O σ H E I r => he F O σ H _ I fun d ρ1 v H1 k o J rv => r.rt d ρ1 σ H1 v k J rv
/-- f(hand, e, ..), its result told loosely -/
theorem q_hand (i : Nat) {xp : Pos} {g : Str} (Fn : FnV X.prog X.w X.K X.mg X.base k g S) (hr : Room k X.A) (hi : ρ[i]? = some (.mut q ds)) (ha : CD X ρ es es' ρ1) {cs1 : List D} (hi1 : ρ1[i]? = some (.mut q cs1))
    (hS : S (.mut q cs1 :: es'.map .dat) fun r ρa => ∃ cs d, ρa = .mut q cs :: es'.map .dat ∧ r = .ok d ∧ R d (ρ1.set i (.mut q cs))) (hg : Gl X g := by rfl) (hN : X.N[i]? = some n := by rfl) (hv : Vis X.env.scope n := by first | exact Or.inl rfl | exact Or.inr (Or.inl rfl) | exact Or.inr (Or.inr rfl))
    (h1 : (n == ("__debug__" : Str)) = false := by decide) (h2 : (n == ("__classdict__" : Str)) = false := by decide) (hdb : (g == ("__debug__" : Str)) = false := by decide)
    (he : starEach (.Name n xp :: es) X.env = (false, eval (.Name n xp) X.env) :: starEach es X.env := by rfl) (hpl : (backTo pos (starEach es X.env)).any (·.1) = false := by rfl) :
    QE X ρ (.Call (.Name g p) (.Name n xp :: es) [] pos) R := fun F O σ H Q I qq => by
  obtain ⟨f, fd, ps, hF, hm, hk, hb⟩ := Fn.ex
  intro pins s Iv
  refine (pe_call hF hr hg hm hk hb .nil passLN (pa_cons (pe_var hN hv h1 h2) pa_tw he) hdb he hpl).run pins s σ H Q Iv ?_
  obtain ⟨e1, _, _⟩ := I.mt i q ds hi
  refine ⟨.ref q, e1, ha.2 F O σ H _ I fun ws H1 J rs => ?_⟩
  refine ⟨fun a => UU O ρ1 a ∧ a ≠ q, .mut q cs1 :: es'.map .dat, ?_, Fn.mono _ _ _ (fun r ρa ⟨cs, d, ea, er, hR⟩ => ?_) hS⟩
  · rw [List.append_nil]
    exact argsM_ok (cs := []) J hi1 rs
  · subst ea er
    intro _ H' L v rv
    rw [List.append_nil] at L
    obtain ⟨M1, M2⟩ := backM J hi1 L
    exact qq d _ v H' hR ((owns_setM hi1).trans ha.1) M1 (M2 rv)
/-- a, b, c = x, y, [..] -/
theorem css_par3M (i j l : Nat) {m2 : Str} {px py pz pt pt2 : Pos} {kt k2} {y : D} {x : D} {ρ3 : Lo} (B : Bd X) (ha : CE X ρ a x ρ1) (hb : CE X ρ1 b y ρ2) (hc : CN X ρ2 c ds ρ3) (k : ∀ q, CSs X (((ρ3.set i (.dat x)).set j (.dat y)).set l (.mut q ds)) rest W) (hlt : l < ρ3.length := by first | decide | simp) (hij : i ≠ j := by decide) (hil : i ≠ l := by decide) (hjl : j ≠ l := by decide)
    (hi : X.N[i]? = some n := by rfl) (hj : X.N[j]? = some m := by rfl) (hl : X.N[l]? = some m2 := by rfl)
    (hx : X.env.scope.names.lookup n = some .local := by rfl) (hy : X.env.scope.names.lookup m = some .local := by rfl) (hz : X.env.scope.names.lookup m2 = some .local := by rfl)
    (hw : swappedStores [.Tuple [.Name n px, .Name m py, .Name m2 pz] kt pt] (.Tuple [a, b, c] k2 pt2) X.env = pure (some [n, m, m2]) := by rfl)
    (hs : swapsWithSole [.Tuple [.Name n px, .Name m py, .Name m2 pz] kt pt] (.Tuple [a, b, c] k2 pt2) pos.line X.env = pure false := by rfl)
    (he : starEach [a, b, c] X.env = (false, eval a X.env) :: starEach [b, c] X.env := by rfl) (he2 : starEach [b, c] X.env = (false, eval b X.env) :: starEach [c] X.env := by rfl) (he3 : starEach [c] X.env = (false, eval c X.env) :: starEach [] X.env := by rfl) :
    CSs X ρ (.Assign [.Tuple [.Name n px, .Name m py, .Name m2 pz] kt pt] (.Tuple [a, b, c] k2 pt2) pos :: rest) W :=
  css_of (ps_par3 B.calm B.nd hi hj hl hij hil hjl hx hy hz (pa_cons pe_tw (pa_cons pe_tw (pa_cons pe_tw pa_nil he3) he2) he) hw hs) fun F O σ H E I r => ha.2 F O σ H _ I fun v H0 I0 r0 => hb.2 _ O σ H0 _ I0.sup fun w H1 J rw' => hc.2 _ O σ H1 _ J.sup fun q vs H2 M hp rv => by
    have J' := J.weak I0.le_sup I0.od
    have M' := M.weak J'.le_sup J'.od
    have r1 := SOk.keep hc.1 M (SOk.keep hb.1 J r0)
    have r2 := SOk.keep hc.1 M rw'
    have exS : ∀ {ρ : Lo} {i : Nat} {d : D} {H : Hp}, Ex (hid (UU O ρ) H) (hid (UU O (ρ.set i (.dat d))) H) := fun {ρ i d H} => ex_hid fun a o _ nn h => ⟨fun z => nn (UU_set datNe z), h⟩
    refine ⟨v, w, .ref q, rfl, r.nx _ _ _ (k q) ?_⟩
    exact ((M'.set (i := i) r1).set (i := j) (r2.mono exS)).own1 (i := l) hp (Reps.mono exS (Reps.mono exS rv)) (by rw [List.length_set, List.length_set]; exact hlt)
end
end VL
end

section
set_option Elab.async false
set_option linter.all false
set_option maxRecDepth 100000
set_option maxHeartbeats 4000000
/-! the end -/
namespace VL
open PySem PySem.Spec PyProof.Rows L2 LamX
/-- the law's def itself -/
theorem fn_law {P : Program} {w : World} {K : PySem.W.Frag} {mg : Str → Option Value} {base : Heap} {k : Nat} {x : Str} {st : Stmt} {f : Addr} {fd : FuncData} {N ps : List Str} {A : List D → Res → Prop} (Fu : Fun K x x st f fd) (Sc : FnScope N ps (defScope st)) (hlen : ∀ ds r, A ds r → ds.length = ps.length)
    (hbody : ∀ (cdv : Value) (A' : Around) (outer : List Env) (s : Shared) (H : Hp) (E : XK), Room k (cx P w K mg base N x st f cdv A' outer s H E).A → Bd (cx P w K mg base N x st f cdv A' outer s H E) → ∀ ds r, A ds r →
      CSs (cx P w K mg base N x st f cdv A' outer s H E) (ds.map .dat ++ List.replicate (N.length - ps.length) .un) (defBody st) { nx := fun _ => r = .ok .non, rt := fun d _ => r = .ok d, er := fun e _ => r = .error e }) (hb : Binds K fd ps []) (hm : mg x = some (.ref f)) : FnOk P w K mg base (L2N.CX P w) (k + 1) f fd ps (spV K (detS A)) := by
  refine Fun.okXN Fu Sc (fun vs H Q E h => ?_) (fun cdv A' outer s H vs Q E hr h => ⟨_, pss_tw, ?_⟩)
  · obtain ⟨O, ρ, I, ds, r, rfl, a, _⟩ := h
    have := I.len
    rw [List.length_map, List.length_map] at this
    rw [this]
    exact hlen ds r a
  · obtain ⟨O, ρ, I, ds, r, rfl, a, po⟩ := h
    have hl : vs.length = ps.length := by
      have := I.len
      rw [List.length_map, List.length_map] at this
      rw [this]
      exact hlen ds r a
    intro pins s1 Iv
    rw [start_eq hl] at Iv
    have post := po rfl
    have exH : ExN H (VL.sup (ds.map .dat) H) := fun a o _ h => hid_of owns_dats h
    have sub : ∀ {ρ' : Lo} {H' : Hp} a, UU O (ds.map .dat) a → UU O ρ' a := fun a z => z.elim .inl fun z => absurd z owns_dats
    refine hbody cdv A' outer s H E hr (bd_cx Sc.nd) ds r a (VL.sup (ds.map .dat) H) O _ H _ (I.more _) ⟨fun ρ' σ' H' h J => ?_, fun d ρ' σ' H' v h J rv => ?_, fun _ _ _ h _ => h.elim, fun _ _ _ h _ => h.elim, _, takes_cx, fun er ρ' σ' H' cls dd h J re => ?_⟩ pins s1 Iv
    · subst h
      exact post H' (I.ext (exH.trans J.fr.nt) J.tb) .non .non
    · subst h
      exact post H' (I.ext (exH.trans J.fr.nt) J.tb) v (rv.mono (ex_hid fun a o _ n h => ⟨fun z => n (sub (H' := H') a z), h⟩))
    · subst h
      obtain ⟨e1, e2⟩ := re
      refine post H' (I.ext (exH.trans J.fr.nt) J.tb) cls dd ⟨e1, ?_⟩
      rcases e2 with e2 | ⟨aa, fv, h7, h8, h9⟩
      · exact .inl e2
      · have ex := ex_hid (U := UU O ρ') (U' := UU O (ds.map .dat)) (H := H') (H' := H') fun a o _ n h => ⟨fun z => n (sub (H' := H') a z), h⟩
        exact .inr ⟨aa, fv, h7, ex _ _ h8, RepF.mono ex h9⟩
/-- what the script's law wants -/
def A_script (ds : List D) (r : Res) : Prop := ∃ ns : List Int, ds = [.frl (ns.map D.int)] ∧ ns.length ≤ 63 ∧ r = .ok (.bl true)
theorem sp_script {K : PySem.W.Frag} {H : Hp} {a : Addr} {ns : List Int} (tb : TB H) (hl : ns.length ≤ 63) (hS : SqL K H a (ns.map V.int)) : spV K (detS A_script) [.ref a] H (fun v _ => v = .bl true) fun _ _ _ => False := by
  have hS' : SqL K (hid (fun _ => False) H) a (ns.map V.int) := by
    rcases hS with (h | ⟨o, h⟩) | h
    · exact .inl (.inl (hid_of id h))
    · exact .inl (.inr ⟨o, hid_of id h⟩)
    · exact .inr h
  refine ⟨fun _ => False, [Sl.dat (.frl (ns.map D.int))], args_ok (ds := [.frl (ns.map D.int)]) (.one (.frl hS' (Reps.ofInts ns))) (fun _ z => z.elim) tb, [.frl (ns.map D.int)], .ok (.bl true), rfl, ⟨ns, rfl, hl, rfl⟩, fun _ H' J v rv => ?_⟩
  cases rv
  rfl
/-- the walk of a law row: cs, the code objects whose tables grow -/
theorem walk_vl {l : PySem.W.OpenLaw} {k : Nat} {q : Program} {loose : List Str} {XP : (Str → Option Value) → Heap → Prop} {YP : World → Heap → Prop} {d : DefRec} {K : Params → PySem.W.Frag} {x : Str}
    (hn : l.most = some 63) (hdf : d.params.defaults = []) (hr : Room k callerA) (hY : ∀ (w : World) (h : Heap), YP w h → (K w.params).In h)
    (F : ∀ (w : World) (mg : Str → Option Value) (fa : Addr) (h : Heap), YP w h → XP mg h → (K w.params).In h → h.Ns mainGlobals mg → mg d.name = some (.ref fa) →
      (∀ (y : Str) (e : DefRec) (c P : Addr), (recsOf q).find? (fun e => e.name == y) = some e → PySem.W.tabIn (K w.params) y = some (c, P) → PySem.W.CodeHd h c P ∧ h.get? P = some (PySem.W.tabObj #[])) → ∃ (fd : FuncData) (cs : List (Addr × Addr)), (∀ p ∈ cs, h.get? p.2 = some { cls := .none, data := .fields #[] }) ∧ (∀ p ∈ cs, (K w.params).lookup p.2 = none) ∧ (∀ p ∈ cs, PySem.W.CodeHd h p.1 p.2) ∧
        (∀ p ∈ lamT, p.1 ∈ cs.map (·.2)) ∧ (∀ (s : Shared) (u : Value), BindsTo s fd ⟨[u], []⟩ [(x, u)]) ∧ ∀ base : Heap, (K w.params).In base → base.Ns mainGlobals mg → (∀ p ∈ cs, TabB base mg p.1 p.2) → FnOk l.prog w (K w.params) mg base (L2N.CX l.prog w) k fa fd [x] (spV (K w.params) (detS A_script))) :
    PySem.W.WalkO q loose XP YP l.row.toRowW d [] (fun f vs => PySem.call f vs) := by
  refine Att.attach_callB hn hdf fun w s₀ s₁ mg mb fa o pm cd doc a vs ns G Y ho hd hcd hmg hobj hints hlen hbits hg => ?_
  have KX := hY w _ Y
  obtain ⟨fd, cs, hT, nT, C, hL, hb, hF⟩ := F w mg fa _ Y G.X KX G.T.g hmg fun y e c P h1 h2 => PySem.W.tab_of G.T KX h1 h2
  refine law_callTs KX G.T.g G.T.b G.T.builtins G.T.nolimit hg hT nT C G.T.bmain hobj hints (Nat.le_trans hlen (by decide)) hr hF hb (fun H hH hS => sp_script (fun p hp => ?_) hlen hS) fun H e s' z => ?_
  · obtain ⟨r, hr1, hr2⟩ := List.mem_map.mp (hL p hp)
    exact TabS.nil (by rw [← hr2]; exact hH r hr1)
  · obtain ⟨_, _, _, _, _, _, _, _, _, _, _, _, z⟩ := z
    exact z
end VL
end

section
set_option Elab.async false
set_option linter.all false
set_option maxRecDepth 100000
set_option maxHeartbeats 4000000
namespace VL
open PySem PySem.Spec PyProof.Rows L2
/-! ### zip of three tuples -/
def Itz3T (K : PySem.W.Frag) (a b c : Addr) : It :=
  ⟨fun i H => ∃ (xs ys zs : List V) (x y z : V), SqT K H a xs ∧ SqT K H b ys ∧ SqT K H c zs ∧ xs[i]? = some x ∧ ys[i]? = some y ∧ zs[i]? = some z,
    fun i H v H' => ∃ T x y z, v = .ref T ∧ H T = none ∧ H' = upd H T (.tup [x, y, z]) ∧ (∀ xs, SqT K H a xs → xs[i]? = some x) ∧ (∀ ys, SqT K H b ys → ys[i]? = some y) ∧ ∀ zs, SqT K H c zs → zs[i]? = some z,
    fun i H => ∃ xs ys zs : List V, SqT K H a xs ∧ SqT K H b ys ∧ SqT K H c zs ∧ i = min (min xs.length ys.length) zs.length⟩
theorem turn_zip3T {P : Program} {w : World} {K : PySem.W.Frag} {elts : List Expr} {kk : Nat} {tpos : Pos} {a b c z TI TO i1 i2 i3 : Addr} (S : ZipSep3 z TI TO i1 i2 i3 [i1, a] [i2, b] [i3, c]) (n1 : a ≠ i1) (n2 : b ≠ i2) (n3 : c ≠ i3) :
    Turn P w K (.Tuple elts kk tpos) (Itz3T K a b c) [z, TI, TO, i1, i2, i3] z (fun i h => IsZip h z TI TO .none ∧ IsTupOf3 h TI (.ref i1) (.ref i2) (.ref i3) ∧ (∃ x y u, IsTupOf3 h TO x y u) ∧ h.IsTupleIter i1 a i ∧ h.IsTupleIter i2 b i ∧ h.IsTupleIter i3 c i) where
  mem := by simp
  obj := fun i h st e he => by
    obtain ⟨hz, hTI, ⟨x, y, u, hTO⟩, ⟨o1, e1, _, d1⟩, ⟨o2, e2, _, d2⟩, ⟨o3, e3, _, d3⟩⟩ := st
    have e' : e = z ∨ e = TI ∨ e = TO ∨ e = i1 ∨ e = i2 ∨ e = i3 := by simpa using he
    rcases e' with q | q | q | q | q | q
    · rw [q]; exact ⟨_, hz, fun v q => nomatch q⟩
    · rw [q]; exact ⟨_, hTI, fun v q => nomatch q⟩
    · rw [q]; exact ⟨_, hTO, fun v q => nomatch q⟩
    · rw [q]; exact ⟨o1, e1, fun v q => by rw [d1] at q; cases q⟩
    · rw [q]; exact ⟨o2, e2, fun v q => by rw [d2] at q; cases q⟩
    · rw [q]; exact ⟨o3, e3, fun v q => by rw [d3] at q; cases q⟩
  keep := fun i h h' st k => by
    obtain ⟨hz, hTI, ⟨x, y, u, hTO⟩, h1, h2, h3⟩ := st
    exact ⟨k z (by simp) _ hz, k TI (by simp) _ hTI, ⟨x, y, u, k TO (by simp) _ hTO⟩, h1.at fun o q => k i1 (by simp) o q, h2.at fun o q => k i2 (by simp) o q, h3.at fun o q => k i3 (by simp) o q⟩
  item := by
    intro X hP hw hK hc i pins s σ H E I hf st hg
    subst hP hw hK
    obtain ⟨hz, hTI, ⟨x0, y0, u0, hTO⟩, h1, h2, h3⟩ := st
    obtain ⟨xs, ys, zs, x, y, u, hqx, hqy, hqz, hx, hy, hu⟩ := hg
    obtain ⟨its, rv, p, _⟩ := I.tuple hqx
    obtain ⟨its2, rv2, p2, _⟩ := I.tuple hqy
    obtain ⟨its3, rv3, p3, _⟩ := I.tuple hqz
    obtain ⟨w1, hw1, ru1⟩ := rv.get hx
    obtain ⟨w2, hw2, ru2⟩ := rv2.get hy
    obtain ⟨w3, hw3, ru3⟩ := rv3.get hu
    have W := WalksT.zipD3 (prog := X.prog) (w := X.w) (A := X.A) S (draws_tuple (A := X.A.in1) (I.ok.hd hc) i1 a n1 its.toArray) (draws_tuple (A := X.A.in1) (I.ok.hd hc) i2 b n2 its2.toArray) (draws_tuple (A := X.A.in1) (I.ok.hd hc) i3 c n3 its3.toArray)
    have l1 := (List.getElem?_eq_some_iff.mp hw1).1
    have l2 := (List.getElem?_eq_some_iff.mp hw2).1
    have l3 := (List.getElem?_eq_some_iff.mp hw3).1
    have hin : i < min (min its.toArray.size its2.toArray.size) its3.toArray.size := by simp only [List.size_toArray]; omega
    have st0 : IsZip s.heap z TI TO .none ∧ IsTupOf3 s.heap TI (.ref i1) (.ref i2) (.ref i3) ∧ (∃ a1 a2 a3, IsTupOf3 s.heap TO a1 a2 a3) ∧ (s.heap.IsTupleIter i1 a i ∧ s.heap.IsTuple a its.toArray) ∧ (s.heap.IsTupleIter i2 b i ∧ s.heap.IsTuple b its2.toArray) ∧ (s.heap.IsTupleIter i3 c i ∧ s.heap.IsTuple c its3.toArray) :=
      ⟨hz, hTI, ⟨_, _, _, hTO⟩, ⟨h1, p⟩, ⟨h2, p2⟩, ⟨h3, p3⟩⟩
    have hzl : z < s.heap.objs.size := Heap.lt_size hz
    refine W.item i s _ _ hin st0 fun T vals h' tk hPt hnew hT hm hk => ⟨.ref T, rfl, W.go elts kk tpos i T { s with heap := h', toks := tk } _ _ hm fun h'' st2 hk2 => ?_⟩
    obtain ⟨v1, v2, v3, e1, e2, e3, rfl⟩ := hPt
    have q1 : v1 = w1 := by rw [List.getElem?_toArray, hw1] at e1; exact (Option.some.inj e1).symm
    have q2 : v2 = w2 := by rw [List.getElem?_toArray, hw2] at e2; exact (Option.some.inj e2).symm
    have q3 : v3 = w3 := by rw [List.getElem?_toArray, hw3] at e3; exact (Option.some.inj e3).symm
    subst q1 q2 q3
    obtain ⟨oT, eT, cT, nT, dT⟩ := hT
    have hT2 : h''.get? T = some oT := hk2 T oT (W.apart i T h' hm) eT
    have new : ObjOk X.prog X.w (upd H T (.tup [x, y, u])) h'' T (.tup [x, y, u]) :=
      ⟨by show 3 ≤ sizeLine; decide, [v1, v2, v3], .cons ru1 (.cons ru2 (.cons ru3 .nil)), ⟨oT, hT2, cT, nT, dT⟩⟩
    have sub : ∀ {e : Addr}, e ∉ [z, TI, TO, i1, i2, i3] → e ∉ [z, TO, i1, i2, i3] := fun {e} h1 h2 => h1 (by
      simp only [List.mem_cons, List.not_mem_nil, or_false] at h2 ⊢
      rcases h2 with r | r | r | r | r <;> simp [r])
    have I1 : Inv X pins σ (upd H T (.tup [x, y, u])) { s with heap := h'', toks := tk } :=
      I.turnedNew (ch := [z, TI, TO, i1, i2, i3]) (fun e o he q => hk2 e o (sub he) (hk e o (sub he) q)) hf hnew new
    refine ⟨.ref T, _, I1, rfl, ⟨_, x, y, u, rfl, I.hok.fresh hnew, rfl, fun l hl => by rw [I.tuple_inj hl hqx]; exact hx, fun l hl => by rw [I.tuple_inj hl hqy]; exact hy, fun l hl => by rw [I.tuple_inj hl hqz]; exact hu⟩, ?_, fun e he => ?_⟩
    · exact ⟨st2.1, st2.2.1, st2.2.2.1, st2.2.2.2.1.1, st2.2.2.2.2.1.1, st2.2.2.2.2.2.1⟩
    · have hlt : e < s.heap.objs.size := by
        have e' : e = z ∨ e = TI ∨ e = TO ∨ e = i1 ∨ e = i2 ∨ e = i3 := by simpa using he
        rcases e' with q | q | q | q | q | q
        · rw [q]; exact hzl
        · rw [q]; exact Heap.lt_size hTI
        · rw [q]; exact Heap.lt_size hTO
        · rw [q]; obtain ⟨_, e1, _⟩ := h1; exact Heap.lt_size e1
        · rw [q]; obtain ⟨_, e2, _⟩ := h2; exact Heap.lt_size e2
        · rw [q]; obtain ⟨_, e3, _⟩ := h3; exact Heap.lt_size e3
      rw [upd_ne (Nat.ne_of_lt (Nat.lt_of_lt_of_le hlt hnew))]
      exact (hf e he).1
  done := by
    intro X hP hw hK hc i pins s σ H E I hf st hg
    subst hP hw hK
    obtain ⟨hz, hTI, ⟨x0, y0, u0, hTO⟩, h1, h2, h3⟩ := st
    obtain ⟨xs, ys, zs, hqx, hqy, hqz, hend⟩ := hg
    obtain ⟨its, rv, p, _⟩ := I.tuple hqx
    obtain ⟨its2, rv2, p2, _⟩ := I.tuple hqy
    obtain ⟨its3, rv3, p3, _⟩ := I.tuple hqz
    have l1 := rv.length
    have l2 := rv2.length
    have l3 := rv3.length
    have W := WalksT.zipD3 (prog := X.prog) (w := X.w) (A := X.A) S (draws_tuple (A := X.A.in1) (I.ok.hd hc) i1 a n1 its.toArray) (draws_tuple (A := X.A.in1) (I.ok.hd hc) i2 b n2 its2.toArray) (draws_tuple (A := X.A.in1) (I.ok.hd hc) i3 c n3 its3.toArray)
    have ei : min (min its.toArray.size its2.toArray.size) its3.toArray.size = i := by simp only [List.size_toArray]; omega
    rw [ei] at W
    have st0 : IsZip s.heap z TI TO .none ∧ IsTupOf3 s.heap TI (.ref i1) (.ref i2) (.ref i3) ∧ (∃ a1 a2 a3, IsTupOf3 s.heap TO a1 a2 a3) ∧ (s.heap.IsTupleIter i1 a i ∧ s.heap.IsTuple a its.toArray) ∧ (s.heap.IsTupleIter i2 b i ∧ s.heap.IsTuple b its2.toArray) ∧ (s.heap.IsTupleIter i3 c i ∧ s.heap.IsTuple c its3.toArray) :=
      ⟨hz, hTI, ⟨_, _, _, hTO⟩, ⟨h1, p⟩, ⟨h2, p2⟩, ⟨h3, p3⟩⟩
    refine W.done s _ _ st0 fun h' tk hk => ⟨rfl, I.turnedL (t' := tk) (ch := [z, TI, TO, i1, i2, i3]) (fun e o he q => hk e o (fun h2 => he ?_) q) hf⟩
    simp only [List.mem_cons, List.not_mem_nil, or_false] at h2 ⊢
    rcases h2 with r | r | r | r | r <;> simp [r]
  self := fun A i s Q E st h => wpAny_pyIter_zip st.1 h
def iZip3T (K : PySem.W.Frag) (ta : TA) : TI := fun σ H R => ta σ H fun vs H1 => ∃ a b c xs ys zs, vs = [.ref a, .ref b, .ref c] ∧ SqT K H1 a xs ∧ SqT K H1 b ys ∧ SqT K H1 c zs ∧ R (Itz3T K a b c) H1
theorem pi_zip3T {X : Cx} {e e2 e3 : Expr} {ta : TA} {p pos tpos : Pos} {elts : List Expr} {kk : Nat} (hg : Gl X "zip") (hm : X.mg "zip" = none) (ha : PA X [e, e2, e3] ta)
    (hs : starEach [e, e2, e3] X.env = (false, eval e X.env) :: starEach [e2, e3] X.env := by rfl) (hpl : (backTo pos (starEach [e2, e3] X.env)).any (·.1) = false := by rfl) :
    PI X (.Tuple elts kk tpos) (.Call (.Name "zip" p) [e, e2, e3] [] pos) (iZip3T X.K ta) := by
  refine ⟨fun pins s σ H R I h => ?_⟩
  refine Call_ (ld_blt I hg hm PyProof.Rows.boot_zip (PyProof.Rows.callWith_type1 (thn (ha.run pos pins s σ H _ I h) fun us s1 ⟨vs, H1, I1, r1, q1⟩ => ?_) hs hpl))
  obtain ⟨a, b, c, xs, ys, zs, ex, hqx, hqy, hqz, q⟩ := q1
  subst ex
  cases r1 with
  | cons r rr =>
    cases rr with
    | cons r' rr =>
      cases rr with
      | cons r'' rr =>
        cases rr
        cases r
        cases r'
        cases r''
        obtain ⟨its, rv, p1, _⟩ := I1.tuple hqx
        obtain ⟨its2, rv2, p2, _⟩ := I1.tuple hqy
        obtain ⟨its3, rv3, p3, _⟩ := I1.tuple hqz
        obtain ⟨o1, ho1, _⟩ := id p1
        obtain ⟨o2, ho2, _⟩ := id p2
        obtain ⟨o3, ho3, _⟩ := id p3
        have b1 := Heap.lt_size ho1
        have b2 := Heap.lt_size ho2
        have b3 := Heap.lt_size ho3
        refine zip_begins3 (begins_tuple a its.toArray) (begins_tuple b its2.toArray) (begins_tuple c its3.toArray) p1 p2 p3 fun h' hz hTI hTO h1 h2 h3 hsz hk => wpAny_pyIter_zip hz ?_
        have I2 : Inv X pins σ H1 { s1 with heap := h' } := I1.kept (t' := s1.toks) hk
        have S := zip_sep3 (N := s1.heap.objs.size) (fp1 := [a]) (fp2 := [b]) (fp3 := [c]) (fun e he => by rw [List.mem_singleton.mp he]; exact b1) (fun e he => by rw [List.mem_singleton.mp he]; exact b2) (fun e he => by rw [List.mem_singleton.mp he]; exact b3)
        refine ⟨s1.heap.objs.size + 5, [s1.heap.objs.size + 5, s1.heap.objs.size + 3, s1.heap.objs.size + 4, s1.heap.objs.size, s1.heap.objs.size + 1, s1.heap.objs.size + 2], _, _, H1, rfl, I2,
          turn_zip3T S (Nat.ne_of_lt b1) (Nat.ne_of_lt (Nat.lt_of_lt_of_le b2 (Nat.le_add_right _ _))) (Nat.ne_of_lt (Nat.lt_of_lt_of_le b3 (Nat.le_add_right _ _))), ⟨hz, hTI, ⟨_, _, _, hTO⟩, ⟨_, h1, rfl, rfl⟩, ⟨_, h2, rfl, rfl⟩, ⟨_, h3, rfl, rfl⟩⟩, fun e he => ?_, q⟩
        have e' : e = s1.heap.objs.size + 5 ∨ e = s1.heap.objs.size + 3 ∨ e = s1.heap.objs.size + 4 ∨ e = s1.heap.objs.size ∨ e = s1.heap.objs.size + 1 ∨ e = s1.heap.objs.size + 2 := by simpa using he
        have hle : s1.heap.objs.size ≤ e := by
          rcases e' with z | z | z | z | z | z
          · rw [z]; exact Nat.le_add_right _ _
          · rw [z]; exact Nat.le_add_right _ _
          · rw [z]; exact Nat.le_add_right _ _
          · rw [z]; exact Nat.le_refl _
          · rw [z]; exact Nat.le_add_right _ _
          · rw [z]; exact Nat.le_add_right _ _
        exact I1.fpOk hle (I1.hok.fresh hle)
def zip3D (xs ys zs : List D) : List D := List.zipWith (fun p z => match p with | .tup [x, y] => .tup [x, y, z] | d => d) (zipD xs ys) zs
theorem zip3D_len {xs ys zs : List D} : (zip3D xs ys zs).length = min (min xs.length ys.length) zs.length := by
  unfold zip3D zipD
  rw [List.length_zipWith, List.length_zipWith]
theorem zip3D_get {xs ys zs : List D} {i : Nat} {x y z : D} (h1 : xs[i]? = some x) (h2 : ys[i]? = some y) (h3 : zs[i]? = some z) : (zip3D xs ys zs)[i]? = some (.tup [x, y, z]) := by
  unfold zip3D
  rw [List.getElem?_zipWith, zipD_get h1 h2, h3]
theorem zip3D_inv {xs ys zs : List D} {i : Nat} {d : D} (h : (zip3D xs ys zs)[i]? = some d) : ∃ x y z, xs[i]? = some x ∧ ys[i]? = some y ∧ zs[i]? = some z ∧ d = .tup [x, y, z] := by
  unfold zip3D at h
  rw [List.getElem?_zipWith] at h
  cases q : (zipD xs ys)[i]? with
  | none => rw [q] at h; cases h
  | some e =>
    cases q3 : zs[i]? with
    | none => rw [q, q3] at h; cases h
    | some z =>
      obtain ⟨x, y, h1, h2, rfl⟩ := zipD_inv q
      rw [q, q3] at h
      cases h
      exact ⟨x, y, z, h1, h2, rfl, rfl⟩
section
variable {X : Cx} {e a b c tg : Expr} {es : List Expr} {ρ ρ1 ρ2 ρ3 ρ' : Lo} {x y d : D} {pos p p2 : Pos} {F F' : Hp} {O : Addr → Prop} {σ : L2.St} {H H' S T : Hp} {i j : Nat} {n m : Str} {ds es' : List D} {q : Addr} {K : PySem.W.Frag}
theorem ci_zip3T {xs ys zs : List D} {elts : List Expr} {kk : Nat} {tpos : Pos} (hm : X.mg "zip" = none) (ha : CE X ρ a (.tup xs) ρ1) (hb : CE X ρ1 b (.tup ys) ρ2) (hc : CE X ρ2 c (.tup zs) ρ3) (hg : Gl X "zip" := by rfl)
    (hs : starEach [a, b, c] X.env = (false, eval a X.env) :: starEach [b, c] X.env := by rfl) (hpl : (backTo pos (starEach [b, c] X.env)).any (·.1) = false := by rfl)
    (he2 : starEach [b, c] X.env = (false, eval b X.env) :: starEach [c] X.env := by rfl) (he3 : starEach [c] X.env = (false, eval c X.env) :: starEach [] X.env := by rfl) : CI X ρ (.Tuple elts kk tpos) (.Call (.Name "zip" p) [a, b, c] [] pos) (zip3D xs ys zs) ρ3 :=
  ⟨_, pi_zip3T hg hm pa_tw hs hpl, hc.1.trans (hb.1.trans ha.1), fun F O σ H R I k => (d_cons ha (d_cons hb (d_cons hc d_nil he3) he2) hs).2 F O σ H _ I fun vs H1 J r => by
    obtain ⟨v, w, u, rfl, ru, rw', ru3⟩ := three_of r
    cases ru with
    | @tup a1 vs1 _ h1 r1 =>
      cases rw' with
      | @tup a2 vs2 _ h2 r2 =>
        cases ru3 with
        | @tup a3 vs3 _ h3 r3 =>
          refine ⟨a1, a2, a3, vs1, vs2, vs3, rfl, hid_ex.t h1, hid_ex.t h2, hid_ex.t h3, k _ H1 J ?_⟩
          have k1 : ∀ {H'}, Ex (VL.sup ρ3 H1) H' → SqT X.K H' a1 vs1 := fun h => h.t ((T_S ρ3 H1).t h1)
          have k2 : ∀ {H'}, Ex (VL.sup ρ3 H1) H' → SqT X.K H' a2 vs2 := fun h => h.t ((T_S ρ3 H1).t h2)
          have k3 : ∀ {H'}, Ex (VL.sup ρ3 H1) H' → SqT X.K H' a3 vs3 := fun h => h.t ((T_S ρ3 H1).t h3)
          have l1 := r1.length
          have l2 := r2.length
          have l3 := r3.length
          refine ⟨fun i H hi h => ?_, fun H h => ⟨vs1, vs2, vs3, k1 h, k2 h, k3 h, by rw [zip3D_len, l1, l2, l3]⟩, fun i H v H' hi h y => ?_⟩
          · rw [zip3D_len] at hi
            exact ⟨vs1, vs2, vs3, vs1[i]'(by omega), vs2[i]'(by omega), vs3[i]'(by omega), k1 h, k2 h, k3 h, by simp, by simp, by simp⟩
          · obtain ⟨t, u1, u2, u3, rfl, ht, rfl, e1, e2, e3⟩ := y
            obtain ⟨d1, q1, q2⟩ := r1.get' (e1 _ (k1 h))
            obtain ⟨d2, q3, q4⟩ := r2.get' (e2 _ (k2 h))
            obtain ⟨d3, q5, q6⟩ := r3.get' (e3 _ (k3 h))
            exact ⟨_, zip3D_get q1 q3 q5, .inr ⟨t, _, _, ht, rfl, rfl, rfl, .cons q2 (.cons q4 (.cons q6 .nil))⟩⟩⟩
/-! ### sum of a tuple -/
def rSumT (K : PySem.W.Frag) : List V → Hp → VK → Prop := fun vs H Q => ∃ (a : Addr) (ns : List Int), vs = [V.ref a] ∧ SqT K H a (ns.map V.int) ∧ Q (.int ns.sum) H
theorem cr_sumT (hc : X.calm = true) : CallR X (.builtin "sum") (rSumT X.K) := by
  intro pins s σ H vs us Q I r h
  obtain ⟨a, ns, rfl, hs, q⟩ := h
  obtain ⟨its, rv, hl, _⟩ := I.tuple hs
  rw [Vals.ref1 r]
  have hi := rv.ints
  obtain ⟨xs, ex⟩ := hi.allInts.items
  have hn : numsOf (intItems xs).toList = ns := by rw [← ex]; exact hi.numsOf
  rw [nums_intItems] at hn
  have hl' : s.heap.IsTuple a (intItems xs) := by rw [← ex]; exact hl
  refine PySem.W.ktm_sumG (I.ok.hd hc) hl' fun h' tk t' hk => ⟨.int _, H, I.kept hk, ⟨t', ?_⟩, q⟩
  rw [preSum_eq, List.take_of_length_le (by simp), hn]
theorem c_sumT {ns : List Int} (hc : X.calm = true) (hm : X.mg "sum" = none) (ha : CE X ρ a (.tup (ns.map D.int)) ρ1) (hg : Gl X "sum" := by rfl)
    (he : starEach [a] X.env = (false, eval a X.env) :: starEach [] X.env := by rfl) (hpl : (backTo pos (starEach [] X.env)).any (·.1) = false := by rfl) : CE X ρ (.Call (.Name "sum" p) [a] [] pos) (.int ns.sum) ρ1 :=
  c_blt (cr_sumT hc) (fun F O ρ σ H vs Q I r q => by
    obtain ⟨v, rfl, ru⟩ := one_of r
    cases ru with
    | tup h1 s1 =>
      rw [s1.ints] at h1
      exact ⟨_, _, rfl, hid_ex.t h1, q _ _ I (.int _)⟩) hm (by decide +kernel) (d_cons ha d_nil he) hg (he := he) (hpl := hpl)
/-! ### max of a tuple -/
theorem max_tupInts {prog : Program} {w : World} {A : Around} {E : Value → Shared → Prop} {s : Shared} {t : Addr} {xs : Array (Int × Tok)} {Q : Value → Shared → Prop} (hh : A.handled = none) (ht : s.heap.IsTuple t (intItems xs)) (hne : 0 < xs.size)
    (h : ∀ v h' tk, (intItems xs)[argBest (fun i j => decide (numAt xs i > numAt xs j)) (xs.size - 1)]? = some v → (∀ b o, s.heap.get? b = some o → h'.get? b = some o) → Q v { s with heap := h', toks := tk }) :
    wpAny (model prog w) A (call (.builtin "max") [.ref t]) Q E s := by
  obtain ⟨o, ho, hc, n, hd⟩ := id ht
  have hne' : t ≠ s.heap.objs.size := Nat.ne_of_lt (Heap.lt_size ho)
  refine call_max_walk (wpAny_pyIter_tuple ht ?_)
  refine ⟨_, _, _, _, _, _, _, rfl, Walks.tuple (A := A.in1) hh s.heap.objs.size t hne' (intItems xs), ⟨⟨_, Heap.get?_push_size _ rfl, rfl, rfl⟩, ht.at fun o e => Heap.get?_push_of_some _ e⟩, fun b hb => ?_, by simpa [intItems] using hne, CmpOf.ints_gt (numAt xs) (fun _ _ => intItems_at), fun v h' tk hP hk => ?_⟩
  · rcases List.mem_cons.mp hb with rfl | hb
    · exact Heap.lt_size (Heap.get?_push_size _ rfl)
    · obtain rfl := List.mem_singleton.mp hb
      exact Heap.lt_size (Heap.get?_push_of_some _ ho)
  · refine h v h' tk (by simpa [intItems] using hP) fun b o e => hk b o (fun hm => ?_) (Heap.get?_push_of_some _ e)
    rcases List.mem_cons.mp hm with e1 | hm
    · exact absurd (e1 ▸ Heap.lt_size e) (Nat.lt_irrefl _)
    · cases hm
def rMaxT (K : PySem.W.Frag) : List V → Hp → VK → Prop := fun vs H Q => ∃ (a : Addr) (ns : List Int), vs = [V.ref a] ∧ SqT K H a (ns.map V.int) ∧ 0 < ns.length ∧ ∀ m, m ∈ ns → (∀ y, y ∈ ns → y ≤ m) → Q (.int m) H
theorem cr_maxT (hc : X.calm = true) : CallR X (.builtin "max") (rMaxT X.K) := by
  intro pins s σ H vs us Q I r h
  obtain ⟨a, ns, rfl, hs, hne, q⟩ := h
  obtain ⟨its, rv, hl, _⟩ := I.tuple hs
  rw [Vals.ref1 r]
  have hi := rv.ints
  obtain ⟨xs, ex⟩ := hi.allInts.items
  have hn : numsOf (intItems xs).toList = ns := by rw [← ex]; exact hi.numsOf
  rw [nums_intItems] at hn
  subst hn
  have hl' : s.heap.IsTuple a (intItems xs) := by rw [← ex]; exact hl
  have hsz : 0 < xs.size := by simpa using hne
  refine max_tupInts (I.ok.hd hc) hl' hsz fun v h' tk hv hk => ?_
  obtain ⟨t, rfl⟩ := intItems_at hv
  obtain ⟨h1, h2⟩ := argBest_gt (numAt xs) (xs.size - 1)
  refine ⟨.int _, H, I.kept hk, ⟨t, rfl⟩, q _ ?_ fun a ha => ?_⟩
  · rw [numAt_eq]; exact PySem.getD_mem (by rw [List.length_map, Array.length_toList]; omega)
  · obtain ⟨j, hj, rfl⟩ := mem_getD ha
    rw [List.length_map, Array.length_toList] at hj
    rw [← numAt_eq]; exact h2 j (by omega)
/-- the greatest -/
def maxI : List Int → Int
  | [] => 0
  | x :: xs => xs.foldl max x
theorem maxI_spec : ∀ (xs : List Int), xs ≠ [] → maxI xs ∈ xs ∧ ∀ y ∈ xs, y ≤ maxI xs
  | [], h => absurd rfl h
  | x :: xs, _ => by
    have key : ∀ (l : List Int) (z : Int), (l.foldl max z = z ∨ l.foldl max z ∈ l) ∧ z ≤ l.foldl max z ∧ ∀ y ∈ l, y ≤ l.foldl max z := fun l => by
      induction l with
      | nil => intro z; exact ⟨.inl rfl, Int.le_refl _, fun y hy => by cases hy⟩
      | cons u l ih =>
        intro z
        obtain ⟨h1, h2, h3⟩ := ih (max z u)
        show (l.foldl max (max z u) = z ∨ _ ∈ u :: l) ∧ z ≤ l.foldl max (max z u) ∧ _
        refine ⟨?_, by omega, fun y hy => ?_⟩
        · rcases h1 with h1 | h1
          · by_cases hz : u ≤ z
            · left; rw [h1]; omega
            · right; rw [List.mem_cons]; left
              show l.foldl max (max z u) = u
              rw [h1]; omega
          · right; exact List.mem_cons_of_mem _ h1
        · rcases List.mem_cons.mp hy with rfl | hy
          · have := h2
            show y ≤ l.foldl max (max z y)
            omega
          · exact h3 y hy
    obtain ⟨h1, h2, h3⟩ := key xs x
    refine ⟨?_, fun y hy => ?_⟩
    · rcases h1 with h1 | h1
      · show xs.foldl max x ∈ _; rw [h1]; exact List.mem_cons_self
      · exact List.mem_cons_of_mem _ h1
    · rcases List.mem_cons.mp hy with rfl | hy
      · exact h2
      · exact h3 y hy
theorem maxI_uniq {xs : List Int} {m : Int} (h : m ∈ xs) (h2 : ∀ y ∈ xs, y ≤ m) : m = maxI xs := by
  obtain ⟨a, b⟩ := maxI_spec xs (fun e => by rw [e] at h; cases h)
  have := h2 _ a
  have := b _ h
  omega
theorem c_maxT {ns : List Int} (hc : X.calm = true) (hm : X.mg "max" = none) (ha : CE X ρ a (.tup (ns.map D.int)) ρ1) (hne : 0 < ns.length) (hg : Gl X "max" := by rfl)
    (he : starEach [a] X.env = (false, eval a X.env) :: starEach [] X.env := by rfl) (hpl : (backTo pos (starEach [] X.env)).any (·.1) = false := by rfl) : CE X ρ (.Call (.Name "max" p) [a] [] pos) (.int (maxI ns)) ρ1 :=
  c_blt (cr_maxT hc) (fun F O ρ σ H vs Q I r q => by
    obtain ⟨v, rfl, ru⟩ := one_of r
    cases ru with
    | tup h1 s1 =>
      rw [s1.ints] at h1
      exact ⟨_, _, rfl, hid_ex.t h1, hne, fun m h2 h3 => by rw [maxI_uniq h2 h3]; exact q _ _ I (.int _)⟩) hm (by decide +kernel) (d_cons ha d_nil he) hg (he := he) (hpl := hpl)
theorem c_maxL {ns : List Int} (hc : X.calm = true) (hm : X.mg "max" = none) (ha : CE X ρ a (.lst (ns.map D.int)) ρ1) (hne : 0 < ns.length) (hg : Gl X "max" := by rfl)
    (he : starEach [a] X.env = (false, eval a X.env) :: starEach [] X.env := by rfl) (hpl : (backTo pos (starEach [] X.env)).any (·.1) = false := by rfl) : CE X ρ (.Call (.Name "max" p) [a] [] pos) (.int (maxI ns)) ρ1 :=
  c_blt (cr_max hc) (fun F O ρ σ H vs Q I r q => by
    obtain ⟨v, rfl, ru⟩ := one_of r
    cases ru with
    | lst h1 s1 =>
      rw [s1.ints] at h1
      exact ⟨_, _, rfl, .of (hid_ex _ _ h1), hne, fun m h2 h3 => by rw [maxI_uniq h2 h3]; exact q _ _ I (.int _)⟩) hm (by decide +kernel) (d_cons ha d_nil he) hg (he := he) (hpl := hpl)
end
/-! ### [::-1] -/
open HT in
theorem sliceApplied_rev {prog : Program} {w : World} {A : Around} {E : Value → Shared → Prop} {s : Shared} {sl : Addr} {vl vu vs : Value} {n : Nat} {Q : Int × Int × Nat → Shared → Prop} (hs : s.heap.IsSliceOf sl vl vu vs) (pl : IsPart vl none) (pu : IsPart vu none) (ps : IsPart vs (some (-1)))
    (h : Q (((n : Int) - 1), -1, n) s) : wpAny (model prog w) A (Builtin.Slice.sliceApplied (.ref sl) (pure (n : Int))) Q E s := by
  obtain ⟨os, hos, hcs, hds⟩ := id hs
  unfold Builtin.Slice.sliceApplied Builtin.Slice.sliceFields
  refine wpAny_bind (wpAny_bind (wpAny_field hos hds (x := vl) rfl (wpAny_bind (wpAny_field hos hds (x := vu) rfl (wpAny_bind (wpAny_field hos hds (x := vs) rfl (wpAny_pure ?_)))))))
  refine wpAny_bind (slicePart_ ps ?_)
  show wpAny _ _ (if ((-1 : Int) == 0) = true then _ else _) _ _ s
  rw [if_neg (by decide)]
  refine wpAny_bind (slicePart_ pl (wpAny_bind (slicePart_ pu (wpAny_bind (wpAny_pure ?_)))))
  show wpAny _ _ (match Builtin.Slice.sliceAdjust none none (-1) (n : Int) with | (lo, hi) => pure (lo, (-1 : Int), Builtin.Slice.slicePlaces lo hi (-1))) _ _ s
  have e : Builtin.Slice.sliceAdjust none none (-1) (n : Int) = ((n : Int) - 1, -1) := rfl
  rw [e]
  show wpAny _ _ (pure ((n : Int) - 1, (-1 : Int), Builtin.Slice.slicePlaces ((n : Int) - 1) (-1) (-1))) _ _ s
  have e2 : Builtin.Slice.slicePlaces ((n : Int) - 1) (-1) (-1) = n := by
    unfold Builtin.Slice.slicePlaces
    simp only [show ¬ ((-1 : Int) > 0) by omega, if_false, Int.neg_neg, Int.ediv_one]
    split <;> omega
  rw [e2]
  exact wpAny_pure h
theorem pick_rev (xs : Array Value) : ((List.range xs.size).filterMap fun (m : Nat) => xs[(((xs.size : Int) - 1) + (m : Int) * (-1)).toNat]?).toArray = xs.toList.reverse.toArray := by
  congr 1
  have e : ∀ m, m ∈ List.range xs.size → xs[(((xs.size : Int) - 1) + (m : Int) * (-1)).toNat]? = some (xs.toList.reverse.getD m .none) := fun m hm => by
    rw [List.mem_range] at hm
    have : (((xs.size : Int) - 1) + (m : Int) * (-1)).toNat = xs.size - 1 - m := by omega
    have hlt : xs.size - 1 - m < xs.toList.length := by rw [Array.length_toList]; omega
    rw [this, List.getD_eq_getElem?_getD, List.getElem?_reverse (by simpa using hm), Array.length_toList, List.getElem?_eq_getElem hlt]
    rw [Array.getElem?_eq_getElem (by omega)]
    simp
  have : ∀ l : List Nat, (∀ m ∈ l, m ∈ List.range xs.size) → l.filterMap (fun (m : Nat) => xs[(((xs.size : Int) - 1) + (m : Int) * (-1)).toNat]?) = l.map fun m => xs.toList.reverse.getD m .none := fun l => by
    induction l with
    | nil => intro _; rfl
    | cons m l ih =>
      intro h
      rw [List.filterMap_cons, e m (h m List.mem_cons_self), List.map_cons, ih fun k hk => h k (List.mem_cons_of_mem _ hk)]
  rw [this _ fun _ h => h]
  apply List.ext_getElem?
  intro k
  rw [List.getElem?_map]
  by_cases hk : k < xs.size
  · rw [List.getElem?_range hk, List.getElem?_eq_getElem (by simpa using hk)]
    show some (xs.toList.reverse.getD k .none) = _
    rw [List.getD_eq_getElem?_getD, List.getElem?_eq_getElem (by simpa using hk)]
    rfl
  · rw [List.getElem?_eq_none (by rw [List.length_range]; omega), List.getElem?_eq_none (by simp; omega)]; rfl
open HT in
theorem getItem_tuple_rev {prog : Program} {w : World} {A : Around} {E : Value → Shared → Prop} {s : Shared} {t sl : Addr} {items : Array Value} {vl vu vs : Value} {Q : Value → Shared → Prop} (ht : IsTup s.heap t items) (hs : s.heap.IsSliceOf sl vl vu vs) (pl : IsPart vl none) (pu : IsPart vu none) (ps : IsPart vs (some (-1)))
    (h : Q (.ref s.heap.objs.size) { s with heap := s.heap.push { cls := .type "tuple", data := .seq items.toList.reverse.toArray } })
    (hsz : items.size ≤ sizeLine) : wpAny (model prog w) A (getItem (.ref t) (.ref sl)) Q E s := by
  have htake : sizeOk (.seq items.toList.reverse.toArray) := by
    show items.toList.reverse.toArray.size ≤ sizeLine
    rw [List.size_toArray, List.length_reverse, Array.length_toList]
    exact hsz
  obtain ⟨os, hos, hcs, hds⟩ := id hs
  have hTs : s.TypeIs (.ref sl) "slice" := ⟨os, hos, hcs⟩
  unfold getItem
  try with_reducible refine wpAny_holding ?_
  first | refine wpAny_bind (wpAny_pure ?_) | skip
  refine wpAny_bind (wpAny_sequenceKey ht.typeIs (by decide) ?_)
  refine wpAny_bind (wpAny_callSpecial?_slot (name := Str.ofString "__getitem__") ht.typeIs PyProof.Rows.slot_tuple_getitem
    (wpAny_call_entry PyProof.Rows.slot_tuple_getitem ht.typeIs entry_tuple_getitem ?_ (args_tuple_getitem _ _)))
  show wpAny _ _ (Builtin.Tuple.tupleItemsOf (.ref t) >>= _) _ _ s
  refine wpAny_bind (tupleItemsOf_ ht ?_)
  refine wpAny_bind (wpAny_typeOf hTs ?_)
  rw [if_pos (by decide)]
  refine wpAny_bind (sliceApplied_rev hs pl pu ps ?_)
  show wpAny _ _ (if ((((items.size : Int) - 1)) == 0 && (-1 : Int) == 1 && items.size == items.size) = true then _ else _) _ _ s
  have hno : ¬ (((((items.size : Int) - 1)) == 0 && (-1 : Int) == 1 && items.size == items.size) = true) := by simp
  rw [if_neg hno, pick_rev]
  first
    | exact wpAny_bind (m := Builtin.Tuple.tupleExact _) (wpAny_newObj_type (wpAny_pure ⟨_, rfl, wpAny_pure h⟩) htake)
    | exact wpAny_bind (m := Builtin.Tuple.tupleExact _) (wpAny_newObj_type (wpAny_bind (wpAny_pure (wpAny_pure ⟨_, rfl, wpAny_pure h⟩))) htake)
    | exact wpAny_bind (wpAny_bind (m := Builtin.Tuple.tupleExact _) (wpAny_newObj_type (wpAny_pure (wpAny_pure ⟨_, rfl, wpAny_pure h⟩)) htake))
    | exact wpAny_bind (wpAny_bind (m := Builtin.Tuple.tupleExact _) (wpAny_newObj_type (wpAny_pure ⟨_, rfl, wpAny_pure h⟩) htake))
def tRevT (K : PySem.W.Frag) (te : TE) : TE := fun σ H Q => te σ H fun x H1 => ∃ a xs, x = .ref a ∧ SqT K H1 a xs ∧ ∀ p, H1 p = none → Q (.ref p) (upd H1 p (.tup xs.reverse))
section
variable {X : Cx} {e a b c tg : Expr} {es : List Expr} {ρ ρ1 ρ2 ρ3 ρ' : Lo} {x y d : D} {pos p p2 : Pos} {F F' : Hp} {O : Addr → Prop} {σ : L2.St} {H H' S T : Hp} {i j : Nat} {n m : Str} {ds es' : List D} {q : Addr} {K : PySem.W.Frag}
theorem pe_revT {e : Expr} {te : TE} {k : Nat} {p1 p2 p3 pos : Pos} (he : PE X e te) : PE X (.Subscript e (.Slice none none (some (.UnaryOp .USub (.Constant (.int 1) k p1) p2)) p3) pos) (tRevT X.K te) := by
  refine ⟨fun pins s σ H Q I h => ?_⟩
  refine Subscript_ (thn (he.run pins s σ H _ I h) fun v s1 ⟨x, H1, I1, r1, q1⟩ => ?_)
  obtain ⟨a, xs, ex, hx, q⟩ := q1
  subst ex
  cases r1
  have hst : PO X (some (.UnaryOp .USub (.Constant (.int 1) k p1) p2)) (tPart (tUn (rU fun i => .int (-i)) (tC (.int 1)))) := po_some (pe_un un_neg pe_int)
  refine wpAny_Slice (thn (po_none.run pins s1 σ H1 (fun o H2 => o = none ∧ H2 = H1) I1 ⟨rfl, rfl⟩) fun vl s2 ⟨l, H2, I2, pl, el, e2⟩ => ?_)
  subst el e2
  refine thn (po_none.run pins s2 σ H2 (fun o H3 => o = none ∧ H3 = H2) I2 ⟨rfl, rfl⟩) fun vu s3 ⟨u, H3, I3, pu, eu, e3⟩ => ?_
  subst eu e3
  refine thn (hst.run pins s3 σ H3 (fun o H4 => o = some (-1) ∧ H4 = H3) I3 ⟨1, rfl, -1, rfl, rfl, rfl⟩) fun vs s4 ⟨o, H4, I4, ps, eo, e4⟩ => ?_
  subst eo e4
  have I5 : Inv X pins σ H4 { s4 with heap := s4.heap.push { cls := .type "slice", data := .fields #[vl, vu, vs] } } := I4.kept (t' := s4.toks) fun b ob q => Heap.get?_push_of_some _ q
  obtain ⟨its, r, ht, hz⟩ := I5.tuple hx
  have hlen := r.length
  show wpAny (model X.prog X.w) X.A (subscriptTail e (.Slice none none (some (.UnaryOp .USub (.Constant (.int 1) k p1) p2)) p3) (.ref a) (.ref s4.heap.objs.size)) (EP X pins σ Q) X.xe { s4 with heap := s4.heap.push { cls := .type "slice", data := .fields #[vl, vu, vs] } }
  refine tail_any (ops := [.ref a, .ref s4.heap.objs.size]) ht.typeIs (PyProof.Rows.slot_tuple_getitem.lookup) ?_ (by with_unfolding_all rfl)
  refine getItem_tuple_rev ht (Heap.IsSliceOf.new _ vl vu vs) pl pu ps ?_ (by rw [List.size_toArray]; omega)
  refine ⟨.ref _, _, I5.laid (t' := s4.toks) (o := .tup xs.reverse) (fun b ob q => Heap.get?_push_of_some _ q) (Nat.le_refl _) ?_, rfl, q _ (I5.hok.fresh (Nat.le_refl _))⟩
  exact ⟨by rw [List.length_reverse]; exact hz, _, r.reverse, ⟨_, Heap.get?_push_size _ rfl, rfl, 0, rfl⟩⟩
theorem c_revT {ds : List D} {k : Nat} {p1 p3 : Pos} (h : CE X ρ a (.tup ds) ρ1) : CE X ρ (.Subscript a (.Slice none none (some (.UnaryOp .USub (.Constant (.int 1) k p1) p2)) p3) pos) (.tup ds.reverse) ρ1 := .of (pe_revT pe_tw) ⟨h.1, fun F O σ H Q I q => h.2 F O σ H _ I fun v H1 J r => by
  cases r with
  | tup h1 rs => exact ⟨_, _, rfl, hid_ex.t h1, fun p hp => q _ _ (J.new hp) (.tup (.of (J.newHid hp)) (rs.reverse.mono (ex_new hp)))⟩⟩
theorem n_revL {ds : List D} {k : Nat} {p1 p3 : Pos} (h : CE X ρ a (.lst ds) ρ1) : CN X ρ (.Subscript a (.Slice none none (some (.UnaryOp .USub (.Constant (.int 1) k p1) p2)) p3) pos) ds.reverse ρ1 := .of (pe_revL pe_tw) ⟨h.1, fun F O σ H Q I q => h.2 F O σ H _ I fun v H1 J r => by
  cases r with
  | lst h1 rs => exact ⟨_, _, rfl, .of (hid_ex _ _ h1), fun p hp => q p _ H1 J hp rs.reverse⟩⟩
end
end VL
end

section
set_option Elab.async false
set_option linter.all false
set_option maxRecDepth 100000
set_option maxHeartbeats 4000000
namespace VL
open PySem PySem.Spec PyProof.Rows L2
/-! ### what the laws share -/
/-- exceptions, as every context sees them -/
abbrev EX0 (P : Program) (w : World) (K : PySem.W.Frag) (mg : Str → Option Value) (base : Heap) (x : Str) (C : Addr) : Prop := ∀ X : Cx, X.prog = P → X.w = w → X.K = K → X.mg = mg → X.base = base → Xc X x C
abbrev EX1 (P : Program) (w : World) (K : PySem.W.Frag) (mg : Str → Option Value) (base : Heap) (x f : Str) (C : Addr) : Prop := ∀ X : Cx, X.prog = P → X.w = w → X.K = K → X.mg = mg → X.base = base → Xi X x f C
theorem nat_of {n : Int} (h : 0 ≤ n) : ∃ m : Nat, n = m := ⟨n.toNat, by omega⟩
def intQ : D → Bool
  | .int _ => true
  | _ => false
def within (d : D) (lo hi : Int) : Bool := match d with
  | .int i => decide (lo ≤ i) && decide (i ≤ hi)
  | _ => false
theorem at_last {α : Type} {xs : List α} {x : α} (h : xs[xs.length - 1]? = some x) : atI xs (-1) = some x := by
  have hl : 0 < xs.length := by
    have := (List.getElem?_eq_some_iff.mp h).1
    omega
  have e : ixN xs.length (-1) = some (xs.length - 1) := by
    unfold ixN
    rw [if_neg (by decide), if_pos (by omega)]
    congr 1
    omega
  unfold atI
  rw [e]
  exact h
def intsD (l : List D) : List Int := l.map fun x => match x with
  | .int c => c
  | _ => 0
theorem intsD_map (cs : List Int) : intsD (cs.map D.int) = cs := by
  unfold intsD
  rw [List.map_map]
  exact List.map_id cs
def Lt2 (b : Nat) (x : Int) : Prop := x.natAbs < 2 ^ b
theorem Lt2.log {b : Nat} {x : Int} (h : Lt2 b x) : x.natAbs.log2 ≤ b := by
  by_cases h0 : x.natAbs = 0
  · rw [h0]; exact Nat.zero_le _
  · exact Nat.le_of_lt ((Nat.log2_lt h0).mpr h)
theorem Lt2.mono {b c : Nat} {x : Int} (h : Lt2 b x) (hc : b ≤ c) : Lt2 c x := Nat.lt_of_lt_of_le h (Nat.pow_le_pow_right (by decide) hc)
theorem Lt2.mul {b c : Nat} {x y : Int} (h : Lt2 b x) (g : Lt2 c y) : Lt2 (b + c) (x * y) := by
  unfold Lt2 at *
  rw [Int.natAbs_mul, Nat.pow_add]
  exact Nat.mul_lt_mul'' h g
theorem Lt2.sub {b : Nat} {x y : Int} (h : Lt2 b x) (g : Lt2 b y) : Lt2 (b + 1) (y - x) := by
  unfold Lt2 at *
  rw [Nat.pow_succ]
  omega
theorem Lt2.add {b : Nat} {x y : Int} (h : Lt2 b x) (g : Lt2 b y) : Lt2 (b + 1) (x + y) := by
  unfold Lt2 at *
  rw [Nat.pow_succ]
  omega
theorem Lt2.div {b : Nat} {x : Int} (h : Lt2 b x) (k : Nat) : Lt2 b (x / ((k : Int) + 1)) := by
  unfold Lt2 at *
  refine Nat.lt_of_le_of_lt ?_ h
  have := Int.natAbs_ediv_le_natAbs x ((k : Int) + 1)
  omega
structure Hd where
  cells : List Int
  i : Nat
  left : Int
  seed : Int
  cnt : Int
def Hd.ds (h : Hd) : List D := [.lst (h.cells.map D.int), .int (h.i : Nat), .int h.left, .int h.seed, .int h.cnt]
def Hd.turn (h : Hd) : Hd := if h.left = 0 ∧ h.i < h.cells.length then ⟨h.cells, h.i + 1, if 10 ^ 18 ≤ h.cells.getD h.i 0 then h.cells.getD h.i 0 else h.left, (h.seed * 69621 + h.cells.getD h.i 0 * 40692 + 23) % 2147483629, h.cnt⟩ else h
def mixed (seed cnt : Int) : Int :=
  let n1 := ((seed + 7919 * cnt) * 48271) % 2147483647
  let n2 := (n1 * (n1 / 1009 + 69621)) % 2147483647
  let n3 := (n2 * (n2 / 2003 + 40014)) % 2147483563
  n3 / 16
def Hd.draw (h : Hd) (many : Int) : Int := if 0 < h.turn.left then h.turn.left % many else mixed h.turn.seed (h.turn.cnt + 1) % many
def Hd.next (h : Hd) (many : Int) : Hd := if 0 < h.turn.left then { h.turn with left := h.turn.left / many } else { h.turn with cnt := h.turn.cnt + 1 }
theorem Hd.draw_lt {h : Hd} {many : Int} (hm : 0 < many) : 0 ≤ h.draw many ∧ h.draw many < many := by
  unfold Hd.draw
  split <;> exact ⟨Int.emod_nonneg _ (by omega), Int.emod_lt_of_pos _ hm⟩
def Hd.new (k : Int) (ns : List Int) : Hd := let c := (ns.take 63).map fun n => if n < 0 then -n else n; ⟨c, 0, 0, k + 7 * (c.length : Nat), 0⟩
def A_law_hand (k : Int) (ds es : List D) : Prop := ∃ ns : List Int, ds = [.frl (ns.map D.int)] ∧ ns.length ≤ 63 ∧ es = (Hd.new k ns).ds
def A_law_draw (cs ds : List D) (R : Res → List D → Prop) : Prop := ∃ (h : Hd) (many : Int), cs = h.ds ∧ ds = [.int many] ∧ 0 < many ∧ many < 2 ^ 29 ∧ R (.ok (.int (h.draw many))) (h.next many).ds
def A_law_any (cs ds : List D) (R : Res → List D → Prop) : Prop := ∃ (h : Hd) (l : List D), cs = h.ds ∧ ds = [.lst l] ∧ l ≠ [] ∧ l.length ≤ 1000 ∧ R (.ok (l.getD (h.draw (l.length : Nat)).toNat .non)) (h.next (l.length : Nat)).ds
theorem h0 (h : Hd) : h.ds.length = 5 := rfl
def nest (d : D) (k : Int) : D := ([.tup [d], .lst [d], .dic [(.inl 0, d)]] : List D).getD k.toNat .non
def deepGo : Nat → D → Hd → D × Hd
  | 0, d, h => (d, h)
  | n + 1, d, h => let p := deepGo n d h; (nest p.1 (p.2.draw 3), p.2.next 3)
def deepF (h : Hd) : D × Hd :=
  let h1 := h.next 3
  deepGo (1 + h1.draw 29).toNat (([.non, .str "0", .bl true] : List D).getD (h.draw 3).toNat .non) (h1.next 29)
theorem lt3 {h : Hd} : h.draw 3 = 0 ∨ h.draw 3 = 1 ∨ h.draw 3 = 2 := by
  have := Hd.draw_lt (h := h) (many := 3) (by decide)
  omega
def deepOk : D → Bool
  | .tup _ => true
  | .lst _ => true
  | .dic _ => true
  | _ => false
theorem nest_ok (d : D) (h : Hd) : deepOk (nest d (h.draw 3)) = true := by
  rcases lt3 (h := h) with e | e | e <;> (rw [e]; rfl)
theorem deep_ok (h : Hd) : deepOk (deepF h).1 = true := by
  unfold deepF
  have := Hd.draw_lt (h := h.next 3) (many := 29) (by decide)
  obtain ⟨n, hn⟩ : ∃ n, (1 + (h.next 3).draw 29).toNat = n + 1 := ⟨((h.next 3).draw 29).toNat, by omega⟩
  simp only [hn]
  exact nest_ok _ _
def A_law_deep (cs ds : List D) (R : Res → List D → Prop) : Prop := ∃ h : Hd, cs = h.ds ∧ ds = [] ∧ R (.ok (deepF h).1) (deepF h).2.ds
theorem getD_mem {l : List D} {k : Nat} (h : k < l.length) : l.getD k .non ∈ l := by
  rw [List.getD_eq_getElem?_getD, List.getElem?_eq_getElem h]
  exact List.getElem_mem h
theorem cutD_neg1 (xs : List D) : VL.cutD xs none (some (-1)) = xs.take (xs.length - 1) := by
  have e : HT.sIx xs.length xs.length (some (-1)) = xs.length - 1 := by
    show (if (-1 : Int) < 0 then ((-1 : Int) + (xs.length : Int)).toNat else min (-1 : Int).toNat xs.length) = _
    rw [if_pos (by decide)]
    omega
  unfold VL.cutD
  rw [HT.sIx_none, List.drop_zero, Nat.sub_zero, e]
def sumTo (f : Nat → Int) : Nat → Int
  | 0 => 0
  | m + 1 => sumTo f m + f m
theorem sumTo_congr {f g : Nat → Int} : ∀ m, (∀ t, t < m → f t = g t) → sumTo f m = sumTo g m
  | 0, _ => rfl
  | m + 1, h => by
    show sumTo f m + f m = sumTo g m + g m
    rw [sumTo_congr m fun t ht => h t (by omega), h m (by omega)]
theorem sumTo_head (f : Nat → Int) : ∀ m, sumTo f (m + 1) = f 0 + sumTo (fun t => f (t + 1)) m
  | 0 => by show 0 + f 0 = f 0 + 0; omega
  | m + 1 => by
    show sumTo f (m + 1) + f (m + 1) = f 0 + (sumTo (fun t => f (t + 1)) m + f (m + 1))
    rw [sumTo_head f m]; omega
theorem sumTo_add (f g : Nat → Int) : ∀ m, sumTo (fun t => f t + g t) m = sumTo f m + sumTo g m
  | 0 => rfl
  | m + 1 => by
    show sumTo (fun t => f t + g t) m + (f m + g m) = _ + f m + (_ + g m)
    rw [sumTo_add f g m]; omega
theorem sumTo_sub (f g : Nat → Int) : ∀ m, sumTo (fun t => f t - g t) m = sumTo f m - sumTo g m
  | 0 => rfl
  | m + 1 => by
    show sumTo (fun t => f t - g t) m + (f m - g m) = _ + f m - (_ + g m)
    rw [sumTo_sub f g m]; omega
theorem sumTo_mul (a : Int) (f : Nat → Int) : ∀ m, sumTo (fun t => a * f t) m = a * sumTo f m
  | 0 => (Int.mul_zero a).symm
  | m + 1 => by
    show sumTo (fun t => a * f t) m + a * f m = a * (sumTo f m + f m)
    rw [sumTo_mul a f m, Int.mul_add]
theorem sumTo_rev (f : Nat → Int) : ∀ m, sumTo (fun t => f (m - t)) (m + 1) = sumTo f (m + 1)
  | 0 => rfl
  | m + 1 => by
    rw [sumTo_head (fun t => f (m + 1 - t))]
    have e : sumTo (fun t => f (m + 1 - (t + 1))) (m + 1) = sumTo (fun t => f (m - t)) (m + 1) := sumTo_congr _ fun t _ => by rw [Nat.add_sub_add_right]
    rw [e, sumTo_rev f m]
    show f (m + 1 - 0) + sumTo f (m + 1) = sumTo f (m + 1) + f (m + 1)
    rw [Nat.sub_zero]; omega
theorem sumTo_swap (g : Nat → Nat → Int) (a : Nat) : ∀ m, sumTo (fun t => sumTo (fun i => g i t) a) m = sumTo (fun i => sumTo (g i) m) a
  | 0 => by
    show 0 = sumTo (fun _ => 0) a
    induction a with
    | zero => rfl
    | succ a ih => show 0 = sumTo (fun _ => 0) a + 0; omega
  | m + 1 => by
    show sumTo (fun t => sumTo (fun i => g i t) a) m + sumTo (fun i => g i m) a = sumTo (fun i => sumTo (g i) m + g i m) a
    rw [sumTo_swap g a m, ← sumTo_add]
theorem sumTo_one : ∀ m, sumTo (fun _ => 1) m = m
  | 0 => rfl
  | m + 1 => by
    show sumTo (fun _ => 1) m + 1 = _
    rw [sumTo_one m]; omega
theorem sumTo_pos {f : Nat → Int} : ∀ m, (∀ t, t < m → 1 ≤ f t) → (m : Int) ≤ sumTo f m
  | 0, _ => Int.le_refl _
  | m + 1, h => by
    show ((m + 1 : Nat) : Int) ≤ sumTo f m + f m
    have h1 := sumTo_pos m fun t ht => h t (by omega)
    have h2 := h m (by omega)
    omega
def drawsOf (h : Hd) (m : Int) : Nat → List Int × Hd
  | 0 => ([], h)
  | n + 1 => let p := drawsOf h m n; (p.1 ++ [p.2.draw m], p.2.next m)
theorem drawsOf_len (h : Hd) (m : Int) : ∀ n, (drawsOf h m n).1.length = n
  | 0 => rfl
  | n + 1 => by
    show ((drawsOf h m n).1 ++ [_]).length = _
    rw [List.length_append, drawsOf_len h m n]; rfl
theorem drawsOf_in (h : Hd) {m : Int} (hm : 0 < m) : ∀ n, ∀ x ∈ (drawsOf h m n).1, 0 ≤ x ∧ x < m
  | 0, x, hx => by cases hx
  | n + 1, x, hx => by
    rcases List.mem_append.mp (show x ∈ (drawsOf h m n).1 ++ [(drawsOf h m n).2.draw m] from hx) with hx | hx
    · exact drawsOf_in h hm n x hx
    · rw [List.mem_singleton] at hx
      subst hx
      exact Hd.draw_lt hm
theorem sum_sumTo : ∀ (n : Nat) (f : Nat → Int), ((List.range n).map f).sum = sumTo f n
  | 0, _ => rfl
  | n + 1, f => by
    rw [List.range_succ, List.map_append, List.sum_append, sum_sumTo n f]
    show sumTo f n + (f n + 0) = sumTo f n + f n
    omega
theorem sum_getD (l : List Int) : l.sum = sumTo (fun j => l.getD j 0) l.length := by
  rw [← sum_sumTo]
  congr 1
  apply List.ext_getElem?
  intro k
  rw [List.getElem?_map]
  by_cases hk : k < l.length
  · rw [List.getElem?_range hk, List.getElem?_eq_getElem hk, Option.map_some, List.getD_eq_getElem?_getD, List.getElem?_eq_getElem hk]
    rfl
  · rw [List.getElem?_eq_none (by omega), List.getElem?_eq_none (by rw [List.length_range]; omega)]; rfl
/-- a list by its places -/
theorem list_range {α : Type} (l : List α) (d : α) : l = (List.range l.length).map fun j => l.getD j d := by
  apply List.ext_getElem?
  intro k
  rw [List.getElem?_map]
  by_cases hk : k < l.length
  · rw [List.getElem?_range hk, List.getElem?_eq_getElem hk, Option.map_some, List.getD_eq_getElem?_getD, List.getElem?_eq_getElem hk]
    rfl
  · rw [List.getElem?_eq_none (by omega), List.getElem?_eq_none (by rw [List.length_range]; omega)]; rfl
theorem rng_get {α : Type} {f : Nat → α} {n k : Nat} (h : k < n) : ((List.range n).map f)[k]? = some (f k) := by
  rw [List.getElem?_map, List.getElem?_range h]; rfl
theorem rng_getD {α : Type} {f : Nat → α} {n k : Nat} {d : α} (h : k < n) : ((List.range n).map f).getD k d = f k := by
  rw [List.getD_eq_getElem?_getD, rng_get h]; rfl
theorem at_getD {l : List Int} {k : Nat} (h : k < l.length) : l[k]? = some (l.getD k 0) := by
  rw [List.getD_eq_getElem?_getD, List.getElem?_eq_getElem h]; rfl
/-! ### _law_is: data without dicts, of a depth -/
mutual
def isPl : Nat → D → Bool
  | _, .non => true
  | _, .bl _ => true
  | _, .int _ => true
  | _, .str _ => true
  | n + 1, .tup l => decide (l.length < 100000) && isPls n l
  | n + 1, .lst l => decide (l.length < 100000) && isPls n l
  | _, _ => false
def isPls : Nat → List D → Bool
  | _, [] => true
  | n, d :: ds => isPl n d && isPls n ds
end
theorem isPls_mem {n : Nat} : ∀ {l : List D}, isPls n l = true → ∀ d ∈ l, isPl n d = true
  | [], _, d, h => by cases h
  | e :: es, h, d, hd => by
    unfold isPls at h
    rw [Bool.and_eq_true] at h
    rcases List.mem_cons.mp hd with rfl | hd
    · exact h.1
    · exact isPls_mem h.2 d hd
theorem isPls_of {n : Nat} : ∀ {l : List D}, (∀ d ∈ l, isPl n d = true) → isPls n l = true
  | [], _ => by unfold isPls; rfl
  | e :: es, h => by
    unfold isPls
    rw [Bool.and_eq_true]
    exact ⟨h e List.mem_cons_self, isPls_of fun d hd => h d (List.mem_cons_of_mem _ hd)⟩
theorem isPl_int {n : Nat} {i : Int} : isPl n (.int i) = true := by cases n <;> rfl
theorem isPls_ints {n : Nat} (l : List Int) : isPls n (l.map D.int) = true := isPls_of fun d hd => by
  obtain ⟨i, _, rfl⟩ := List.mem_map.mp hd
  exact isPl_int
theorem isPl_tupI {n : Nat} {l : List Int} (h : l.length < 100000) : isPl (n + 1) (.tup (l.map D.int)) = true := by
  unfold isPl
  rw [Bool.and_eq_true]
  exact ⟨decide_eq_true (by rw [List.length_map]; exact h), isPls_ints l⟩
theorem isPl_lstI {n : Nat} {l : List Int} (h : l.length < 100000) : isPl (n + 1) (.lst (l.map D.int)) = true := by
  unfold isPl
  rw [Bool.and_eq_true]
  exact ⟨decide_eq_true (by rw [List.length_map]; exact h), isPls_ints l⟩
theorem isPl_plD {n : Nat} {d : D} (h : isPl n d = true) : plD d = true := by
  cases d <;> first | rfl | (cases n <;> cases h)
/-- the same: true -/
def A_law_is (n : Nat) (ds : List D) (r : Res) : Prop := ∃ d, ds = [d, d] ∧ isPl n d = true ∧ r = .ok (.bl true)
/-- scalars -/
def isSc : D → Bool
  | .non => true
  | .bl _ => true
  | .int _ => true
  | .str _ => true
  | _ => false
theorem zip_same {l : List D} {i : Nat} {d : D} (h : (zipD l l)[i]? = some d) : ∃ x, x ∈ l ∧ d = .tup [x, x] := by
  obtain ⟨x, y, h1, h2, rfl⟩ := zipD_inv h
  rw [h1] at h2
  cases h2
  exact ⟨x, List.mem_of_getElem? h1, rfl⟩
theorem zipD_len {xs ys : List D} : (zipD xs ys).length = min xs.length ys.length := by unfold zipD; rw [List.length_zipWith]
theorem all_rep (n : Nat) : (List.replicate n true).all id = true := by
  rw [List.all_eq_true]; intro b hb; rw [List.eq_of_mem_replicate hb]; rfl
/-! ### a, b, c = [..], [1, 2], 3 -/
section
variable {X : Cx} {e a b c : Expr} {es : List Expr} {ρ ρ1 ρ2 : Lo} {pos p : Pos} {ds : List D} {rest : List Stmt} {W : WE} {n m : Str}
/-- a display of written ints -/
def LitI (X : Cx) (b : Expr) (ys : List Int) : Prop := ∃ tb, PE X b tb ∧ ∀ σ H Q, (∀ p, H p = none → Q (.ref p) (upd H p (.lst (ys.map V.int)))) → tb σ H Q
theorem lit0 : LitI X (.List [] pos) [] := ⟨_, pe_lst pa_nil, fun σ H Q q => ⟨by decide, q⟩⟩
theorem lit1 {i : Int} {j p1} : LitI X (.List [.Constant (.int i) j p1] pos) [i] := ⟨_, pe_lst (pa_cons pe_int pa_nil), fun σ H Q q => ⟨sz (by simp), q⟩⟩
theorem css_par3L (i j l : Nat) {m2 : Str} {px py pz pt pt2 pc : Pos} {kt k2 jc} {ys : List Int} {z : Int} (B : Bd X) (ha : CN X ρ a ds ρ1) (hb : LitI X b ys) (k : ∀ q p, CSs X (((ρ1.set i (.mut q ds)).set j (.mut p (ys.map D.int))).set l (.dat (.int z))) rest W) (hli : i < ρ1.length := by first | decide | simp) (hlj : j < ρ1.length := by first | decide | simp) (hij : i ≠ j := by decide) (hil : i ≠ l := by decide) (hjl : j ≠ l := by decide)
    (hi : X.N[i]? = some n := by rfl) (hj : X.N[j]? = some m := by rfl) (hl : X.N[l]? = some m2 := by rfl)
    (hx : X.env.scope.names.lookup n = some .local := by rfl) (hy : X.env.scope.names.lookup m = some .local := by rfl) (hz : X.env.scope.names.lookup m2 = some .local := by rfl)
    (hw : swappedStores [.Tuple [.Name n px, .Name m py, .Name m2 pz] kt pt] (.Tuple [a, b, .Constant (.int z) jc pc] k2 pt2) X.env = pure (some [n, m, m2]) := by rfl)
    (hs : swapsWithSole [.Tuple [.Name n px, .Name m py, .Name m2 pz] kt pt] (.Tuple [a, b, .Constant (.int z) jc pc] k2 pt2) pos.line X.env = pure false := by rfl)
    (he : starEach [a, b, .Constant (.int z) jc pc] X.env = (false, eval a X.env) :: starEach [b, .Constant (.int z) jc pc] X.env := by rfl) (he2 : starEach [b, .Constant (.int z) jc pc] X.env = (false, eval b X.env) :: starEach [.Constant (.int z) jc pc] X.env := by rfl) (he3 : starEach [.Constant (.int z) jc pc] X.env = (false, eval (.Constant (.int z) jc pc) X.env) :: starEach [] X.env := by rfl) :
    CSs X ρ (.Assign [.Tuple [.Name n px, .Name m py, .Name m2 pz] kt pt] (.Tuple [a, b, .Constant (.int z) jc pc] k2 pt2) pos :: rest) W := by
  obtain ⟨tb, pb, qb⟩ := hb
  refine css_of (ps_par3 B.calm B.nd hi hj hl hij hil hjl hx hy hz (pa_cons pe_tw (pa_cons pb (pa_cons pe_int pa_nil he3) he2) he) hw hs) fun F O σ H E I r => ha.2 F O σ H _ I fun q vs H1 J hp rv => qb _ _ _ fun p hp2 => ⟨.ref q, .ref p, .int z, rfl, r.nx _ _ _ (k q p) ?_⟩
  have M := J.own1 (i := i) hp rv hli
  have M2 := M.own1 (i := j) hp2 (Reps.ofInts ys) (by rw [List.length_set]; exact hlj)
  exact M2.set (.int z)
end
theorem zipD_ints {xs ys : List Int} (h : ys.length = xs.length) : zipD (xs.map D.int) (ys.map D.int) = (List.range xs.length).map fun k => D.tup [.int (xs.getD k 0), .int (ys.getD k 0)] := by
  apply List.ext_getElem?
  intro k
  by_cases hk : k < xs.length
  · rw [rng_get hk]
    exact zipD_get (at_ints (at_getD hk)) (at_ints (at_getD (by omega)))
  · rw [List.getElem?_eq_none (by rw [zipD_len, List.length_map, List.length_map]; omega), List.getElem?_eq_none (by rw [List.length_map, List.length_range]; omega)]
theorem ints_rng (xs : List Int) : xs.map D.int = (List.range xs.length).map fun k => D.int (xs.getD k 0) := by
  conv => lhs; rw [list_range xs 0]
  rw [List.map_map]; rfl
theorem mulW_of {x y : Int} {b c : Nat} (h1 : Lt2 b x) (h2 : Lt2 c y) (h : b + c < 1000000) : CMulW x y := by
  have a1 := h1.log
  have a2 := h2.log
  unfold CMulW; omega
theorem im_tup (l : List Int) : immut (.tup (l.map D.int)) = true := by unfold immut; exact immutL_ints l
theorem map_succ {α β : Type} (f : Nat → α) (g : α → β) (i : Nat) : ((List.range (i + 1)).map f).map g = ((List.range i).map f).map g ++ [g (f i)] := by
  rw [List.range_succ, List.map_append, List.map_append]; rfl
theorem pick_int {ns : List Int} {k : Nat} (h : k < ns.length) : ∃ n, n ∈ ns ∧ (ns.map D.int).getD k .non = .int n := by
  refine ⟨ns.getD k 0, List.mem_of_getElem? (at_getD h), ?_⟩
  rw [List.getD_eq_getElem?_getD, at_ints (at_getD h)]
  rfl
theorem pick_draw {h : Hd} {ns : List Int} (hn : ns ≠ []) : ∃ n, n ∈ ns ∧ (ns.map D.int).getD (h.draw (ns.length : Nat)).toNat .non = .int n := by
  have hl : 0 < ns.length := List.length_pos_iff.mpr hn
  have := Hd.draw_lt (h := h) (many := (ns.length : Nat)) (by omega)
  exact pick_int (by omega)
/-- a list of ints picked from, as a number -/
def pickI (ns : List Int) (h : Hd) : Int := ns.getD (h.draw (ns.length : Nat)).toNat 0
theorem pickI_mem {ns : List Int} {h : Hd} (hn : ns ≠ []) : pickI ns h ∈ ns := by
  have hl : 0 < ns.length := List.length_pos_iff.mpr hn
  have := Hd.draw_lt (h := h) (many := (ns.length : Nat)) (by omega)
  exact List.mem_of_getElem? (at_getD (by omega))
theorem pickI_eq {ns : List Int} {h : Hd} (hn : ns ≠ []) : (ns.map D.int).getD (h.draw (ns.length : Nat)).toNat .non = .int (pickI ns h) := by
  have hl : 0 < ns.length := List.length_pos_iff.mpr hn
  have := Hd.draw_lt (h := h) (many := (ns.length : Nat)) (by omega)
  rw [List.getD_eq_getElem?_getD, at_ints (at_getD (by omega))]
  rfl
/-! ### t * 1 -/
section
open AutoSeq1 (wpAny_loadPart')
theorem tuple_mulW1 (l : Addr) (items : Array Value) (n : Nat) (dd : Option Addr) (sl : Array (Option Value)) (u : Tok) :
    Meets (Builtin.«tuple.__mul__» ⟨[.ref l, .int 1 u], []⟩) (fun _ R s => s.heap.get? l = some { cls := .type "tuple", dict := dd, data := .seq items n, slots := sl } ∧
      R (.ok (.ret (Value.ref l))) s) :=
  .of_wp fun prog w A R s h => by
    obtain ⟨hp, g, d, tk, os⟩ := s
    obtain ⟨hl, h⟩ := h
    have f1 := AutoSeq1.idx_int
    wp_walk using wpAny_loadPart' hl
    exact ⟨_, rfl, h⟩
end
def rRepT1 (K : PySem.W.Frag) : R2 := fun x y H Q => ∃ l xs, x = .ref l ∧ y = .int 1 ∧ SqT K H l xs ∧ Q (.ref l) H
theorem op_repT1 {X : Cx} : OpR X (binaryOp .Mult) (rRepT1 X.K) := by
  intro pins s σ H x y v u Q I rx ry h
  obtain ⟨l, xs, rfl, rfl, hT, q⟩ := h
  cases rx
  obtain ⟨t, rfl⟩ := ry
  obtain ⟨its, r, ⟨⟨cls, dd, data, sl⟩, ho, hc, n, hd⟩, hs⟩ := I.tuple hT
  simp only at hc hd
  subst hc hd
  exact wpAny_binaryOp_repeat_ref (T := "tuple") (U := "int") (by decide) ⟨_, ho, rfl⟩ (fun s' => typeIs_int s' 1 t) noFill_tuple_mul F.fills_int_mul F.slot_int_rmul repeat_tuple F.slot_int_index.lookup
    (call_meets F.slot_int_rmul (typeIs_int s 1 t) F.entry_int_rmul (F.args_int_rmul_2 _ _) (int_rmul_tuple 1 t l its.toArray n dd sl)
      ⟨ho, rfl, ⟨_, ho, rfl⟩, call_meets F.slot_tuple_mul ⟨_, ho, rfl⟩ F.entry_tuple_mul (F.args_tuple_mul_2 _ _) (tuple_mulW1 l its.toArray n dd sl t) ⟨ho, ⟨.ref l, H, I, rfl, q⟩⟩⟩)
section
variable {X : Cx} {a b : Expr} {ρ ρ1 ρ2 : Lo} {pos : Pos} {i : Int}
theorem c_repT1 {xs : List D} (ha : CE X ρ a (.tup xs) ρ1) (hb : CE X ρ1 b (.int 1) ρ2) : CE X ρ (.BinOp a .Mult b pos) (.tup xs) ρ2 := c_bin op_repT1 (fun F O ρ σ H v w Q I r1 r2 q => by
  cases r2
  cases r1 with
  | tup h1 s1 => exact ⟨_, _, rfl, rfl, hid_ex.t h1, q _ _ I (.tup h1 s1)⟩) ha hb
theorem c_repTN {x : D} (ha : CE X ρ a (.tup [x]) ρ1) (hb : CE X ρ1 b (.int i) ρ2) (hi : 1 ≤ i ∧ i ≤ 1000) : CE X ρ (.BinOp a .Mult b pos) (.tup (List.replicate i.toNat x)) ρ2 := by
  by_cases h : i = 1
  · subst h
    exact c_repT1 ha hb
  · have := c_repT (pos := pos) ha hb (by simp) ⟨by omega, hi.2⟩ (by simp)
    rw [flat1] at this
    exact this
end
/-- (a, b) of which a is loose -/
theorem qe_tup2 {X : Cx} {a b : Expr} {ρ : Lo} {R : D → Lo → Prop} {x1} {pos : Pos} (ha : QE X ρ a fun d1 ρ1 => ∃ d2 ρ2, CE X ρ1 b d2 ρ2 ∧ R (.tup [d1, d2]) ρ2)
    (he : starEach [a, b] X.env = (false, eval a X.env) :: starEach [b] X.env := by rfl) (he2 : starEach [b] X.env = (false, eval b X.env) :: starEach [] X.env := by rfl) : QE X ρ (.Tuple [a, b] x1 pos) R := fun F O σ H Q I qq pins s Iv => by
  refine (pe_tup (pa_cons pe_tw (pa_cons pe_tw pa_nil he2) he)).run pins s σ H Q Iv ?_
  refine ha F O σ H _ I fun d1 ρ1 v H1 hR1 o1 J r1 => ?_
  obtain ⟨d2, ρ2, hb, hR⟩ := hR1
  refine hb.2 _ O σ H1 _ J.sup fun w H2 L r2 => ?_
  have L' := L.weak J.le_sup J.od
  have r1' := SOk.keep hb.1 L r1
  exact ⟨sz (by simp), fun p hp => qq (.tup [d1, d2]) ρ2 (.ref p) _ hR (hb.1.trans o1) (L'.new hp) (.tup (.of (L'.newHid hp)) (Reps.mono (ex_new hp) (.cons r1' (.cons r2 .nil))))⟩
/-- what is nested -/
theorem deep_in {P : D → Prop} (hP : ∀ x, P x → P (.tup [x]) ∧ P (.lst [x]) ∧ P (.dic [(.inl 0, x)])) : ∀ n d h, P d → P (deepGo n d h).1
  | 0, d, h, hd => hd
  | n + 1, d, h, hd => by
    have ih := deep_in hP n d h hd
    obtain ⟨a, b, c⟩ := hP _ ih
    show P (nest (deepGo n d h).1 ((deepGo n d h).2.draw 3))
    rcases lt3 (h := (deepGo n d h).2) with e | e | e <;> rw [e]
    · exact a
    · exact b
    · exact c
theorem deep_cases {P : D → Prop} (h0 : P .non) (h1 : P (.str "0")) (h2 : P (.bl true)) (hP : ∀ x, P x → P (.tup [x]) ∧ P (.lst [x]) ∧ P (.dic [(.inl 0, x)])) (h : Hd) : ∃ x, P x ∧ ((deepF h).1 = .tup [x] ∨ (deepF h).1 = .lst [x] ∨ (deepF h).1 = .dic [(.inl 0, x)]) := by
  unfold deepF
  have := Hd.draw_lt (h := h.next 3) (many := 29) (by decide)
  obtain ⟨n, hn⟩ : ∃ n, (1 + (h.next 3).draw 29).toNat = n + 1 := ⟨((h.next 3).draw 29).toNat, by omega⟩
  simp only [hn]
  have hb : P (([.non, .str "0", .bl true] : List D).getD (h.draw 3).toNat .non) := by
    rcases lt3 (h := h) with e | e | e <;> rw [e]
    · exact h0
    · exact h1
    · exact h2
  generalize ([.non, .str "0", .bl true] : List D).getD (h.draw 3).toNat .non = d at hb
  have ih := deep_in hP n d ((h.next 3).next 29) hb
  refine ⟨(deepGo n d ((h.next 3).next 29)).1, ih, ?_⟩
  show nest _ _ = _ ∨ nest _ _ = _ ∨ nest _ _ = _
  rcases lt3 (h := (deepGo n d ((h.next 3).next 29)).2) with e | e | e <;> rw [e]
  · exact .inl rfl
  · exact .inr (.inl rfl)
  · exact .inr (.inr rfl)
/-! ### the end -/
section
open VLH
def excDB (K : PySem.W.Frag) (D : Addr) : Bool := (PySem.W.clsIn K D).isSome && (decide (PySem.W.findIn K (.ref D) "__getattribute__" = some (some (.builtin "BaseException.__getattribute__"))) && (decide (PySem.W.findIn K (.ref D) "__getattr__" = some none) && (decide (PySem.W.subIn K (.ref D) (.type "BaseException") = some true) && (decide (PySem.W.findIn K (.ref D) "__class__" = some (some (.builtin "object.__class__"))) && (decide (PySem.W.specialIn K (.builtin "object.__class__") "__get__" = some (some (.builtin "getset_descriptor.__get__"))) && (decide (PySem.W.takesIn K (.builtin "object.__class__") = some true) && decide (PySem.W.mroIn K D (.type "object") = some true)))))))
theorem excDB_ok {K : PySem.W.Frag} {D : Addr} (h : excDB K D = true) : ExcD K D := by
  unfold excDB at h
  simp only [Bool.and_eq_true, decide_eq_true_eq] at h
  obtain ⟨h1, h2, h3, h4, h5, h6, h7, h8⟩ := h
  exact ⟨h1, h2, h3, h4, h5, h6, h7, h8⟩
theorem xi_mk {x fd0 : Str} {X' : Cx} {P : Program} {w : World} {K : PySem.W.Frag} {mg : Str → Option Value} {base : Heap} {aC f0 : Addr} {fd : FuncData} {ps : List Str} (e1 : X'.prog = P) (e2 : X'.w = w) (e3 : X'.K = K) (e4 : X'.mg = mg) (e5 : X'.base = base) (g : mg x = some (.ref aC)) (o : OexC K aC) (nf : PySem.W.findIn K (.ref aC) fd0 = some none) (h1 : PySem.W.findIn K (.ref aC) "__init__" = some (some (.ref f0))) (h2 : PySem.W.typeIn K (.ref f0) = some (.type "function")) (h3 : FnOk P w K mg base (L2N.CX P w) 1 f0 fd ps (spInit K fd0)) (h4 : Binds K fd ps []) : Xi X' x fd0 aC := by
  subst e1 e2 e3 e4 e5
  exact ⟨g, o, nf, f0, fd, ps, h1, h2, h3, h4⟩
end
end VL
end

section
set_option Elab.async false
set_option linter.all false
set_option maxRecDepth 100000
set_option maxHeartbeats 4000000
namespace KK
open PySem PySem.Spec PyProof.Rows L2 VL
def topS (i : Nat) : Stmt := PySem.Challenge.pw_paidornot_k87_whole_carries.main.body.getD i (.Pass ⟨0, 0, 0, 0⟩)
def c_MOST_COINS : Int := 60
def c_MOST_COIN : Int := 10 ^ 50 * 10 ^ 50
/-- the built-ins, the numbers of the modules -/
structure Blt (mg : Str → Option Value) : Prop where
  ValueError : mg "ValueError" = none
  abs : mg "abs" = none
  all : mg "all" = none
  any : mg "any" = none
  bool : mg "bool" = none
  enumerate : mg "enumerate" = none
  int : mg "int" = none
  isinstance : mg "isinstance" = none
  len : mg "len" = none
  list : mg "list" = none
  max : mg "max" = none
  range : mg "range" = none
  str : mg "str" = none
  sum : mg "sum" = none
  tuple : mg "tuple" = none
  zip : mg "zip" = none
  MOST_COINS : ∃ t, mg "MOST_COINS" = some (.int 60 t)
  MOST_COIN : ∃ t, mg "MOST_COIN" = some (.int c_MOST_COIN t)
end KK
end

section
set_option Elab.async false
set_option linter.all false
set_option maxRecDepth 100000
set_option maxHeartbeats 4000000
namespace KK
open PySem PySem.Spec PyProof.Rows L2 VL
abbrev s_is_integer : Stmt := topS 1
abbrev N_is_integer : List Str := ["thing"]
theorem sc_is_integer : FnScope N_is_integer ["thing"] (defScope s_is_integer) := ⟨rfl, rfl, rfl, by decide +kernel, rfl, by decide +kernel, by decide +kernel⟩
variable {P : Program} {w : World} {K : PySem.W.Frag} {mg : Str → Option Value} {base : Heap} {f aCoinError aBadNumber aBadPayment aBadCoins : Addr} {fd : FuncData}
def A_is_integer (ds : List D) (r : Res) : Prop := ∃ d, ds = [d] ∧ plD d = true ∧ r = .ok (.bl (intQ d))
theorem ok_is_integer (T : Blt mg) (Fu : Fun K "is_integer" "is_integer" s_is_integer f fd) (hb : Binds K fd ["thing"] []) (hm : mg "is_integer" = some (.ref f)) : FnV P w K mg base 1 "is_integer" (detS A_is_integer) := by
  refine fn_pure (k := 0) Fu sc_is_integer hb hm (fun ds r ⟨d, e, _⟩ => by subst e; rfl) fun cdv A' outer s H E hr B ds r ⟨d, e, hp, er⟩ => ?_
  subst e er
  refine css_ret (c_and (c_isi T.isinstance (c_var 0) (c_bty "int" T.int) hp rfl) (fun _ => (c_one (c_not (c_isi T.isinstance (c_var 0) (c_bty "bool" T.bool) hp rfl))))) ?_
  cases d <;> first | rfl | cases hp
end KK
end

section
set_option Elab.async false
set_option linter.all false
set_option maxRecDepth 100000
set_option maxHeartbeats 4000000
namespace KK
open PySem PySem.Spec PyProof.Rows L2 VL
abbrev s_is_within : Stmt := topS 2
abbrev N_is_within : List Str := ["thing", "low", "high"]
theorem sc_is_within : FnScope N_is_within ["thing", "low", "high"] (defScope s_is_within) := ⟨rfl, rfl, rfl, by decide +kernel, rfl, by decide +kernel, by decide +kernel⟩
variable {P : Program} {w : World} {K : PySem.W.Frag} {mg : Str → Option Value} {base : Heap} {f aCoinError aBadNumber aBadPayment aBadCoins : Addr} {fd : FuncData}
def A_is_within (ds : List D) (r : Res) : Prop := ∃ d lo hi, ds = [d, .int lo, .int hi] ∧ plD d = true ∧ r = .ok (.bl (within d lo hi))
theorem ok_is_within (T : Blt mg) (F_is_integer : FnV P w K mg base 1 "is_integer" (detS A_is_integer)) (Fu : Fun K "is_within" "is_within" s_is_within f fd) (hb : Binds K fd ["thing", "low", "high"] []) (hm : mg "is_within" = some (.ref f)) : FnV P w K mg base 2 "is_within" (detS A_is_within) := by
  refine fn_pure (k := 1) Fu sc_is_within hb hm (fun ds r ⟨d, lo, hi, e, _⟩ => by subst e; rfl) fun cdv A' outer s H E hr B ds r ⟨d, lo, hi, e, hp, er⟩ => ?_
  subst e er
  cases hd : intQ d with
  | true =>
    obtain ⟨i, rfl⟩ : ∃ i, d = .int i := by cases d <;> first | exact ⟨_, rfl⟩ | cases hd
    refine css_ret (c_and (c_call F_is_integer (hr.mono (by decide)) (d_cons (c_var 0) d_nil) (fun R h => ⟨_, _, rfl, ⟨_, rfl, hp, rfl⟩, h⟩)) (fun _ => (c_one (c_leLe (c_var 1) (c_var 0) (fun _ => (c_var 2)))))) ?_
    rfl
  | false =>
    refine css_ret (c_and (l := false) (c_call F_is_integer (hr.mono (by decide)) (d_cons (c_var 0) d_nil) (fun R h => ⟨_, _, rfl, ⟨_, rfl, hp, rfl⟩, h⟩)) (fun h => ?_)) ?_
    · rw [hd] at h; cases h
    · cases d <;> first | rfl | cases hd
end KK
end

section
set_option Elab.async false
set_option linter.all false
set_option maxRecDepth 100000
set_option maxHeartbeats 4000000
namespace KK
open PySem PySem.Spec PyProof.Rows L2 VL
abbrev s_is_tuple_of : Stmt := topS 3
abbrev N_is_tuple_of : List Str := ["thing", "many"]
theorem sc_is_tuple_of : FnScope N_is_tuple_of ["thing", "many"] (defScope s_is_tuple_of) := ⟨rfl, rfl, rfl, by decide +kernel, rfl, by decide +kernel, by decide +kernel⟩
variable {P : Program} {w : World} {K : PySem.W.Frag} {mg : Str → Option Value} {base : Heap} {f aCoinError aBadNumber aBadPayment aBadCoins : Addr} {fd : FuncData}
def tupOf (d : D) (m : Int) : Bool := match d with
  | .tup l => decide ((l.length : Int) = m)
  | _ => false
def A_is_tuple_of (ds : List D) (r : Res) : Prop := ∃ d m, ds = [d, .int m] ∧ plD d = true ∧ r = .ok (.bl (tupOf d m))
theorem ok_is_tuple_of (T : Blt mg) (Fu : Fun K "is_tuple_of" "is_tuple_of" s_is_tuple_of f fd) (hb : Binds K fd ["thing", "many"] []) (hm : mg "is_tuple_of" = some (.ref f)) : FnV P w K mg base 1 "is_tuple_of" (detS A_is_tuple_of) := by
  refine fn_pure (k := 0) Fu sc_is_tuple_of hb hm (fun ds r ⟨d, m, e, _⟩ => by subst e; rfl) fun cdv A' outer s H E hr B ds r ⟨d, m, e, hp, er⟩ => ?_
  subst e er
  by_cases ht : ∃ l, d = .tup l
  · obtain ⟨l, rfl⟩ := ht
    exact css_ret (c_and (c_isi T.isinstance (c_var 0) (c_bty "tuple" T.tuple) rfl rfl) (fun _ => c_one (c_eqI (c_lenT T.len (c_var 0)) (c_var 1)))) rfl
  · have hf : isT "tuple" d = false := by cases d <;> first | rfl | exact absurd ⟨_, rfl⟩ ht
    have h2 : tupOf d m = false := by cases d <;> first | rfl | exact absurd ⟨_, rfl⟩ ht
    refine css_ret (c_and (k := false) (l := false) ((c_isi T.isinstance (c_var 0) (c_bty "tuple" T.tuple) hp rfl).eq (by rw [hf])) (fun h => Bool.noConfusion h)) ?_
    show _ = Except.ok (D.bl (false && false))
    rw [h2]
    rfl
end KK
end

section
set_option Elab.async false
set_option linter.all false
set_option maxRecDepth 100000
set_option maxHeartbeats 4000000
namespace KK
open PySem PySem.Spec PyProof.Rows L2 VL
abbrev s_are_counts : Stmt := topS 4
abbrev N_are_counts : List Str := ["thing", "many", "item"]
theorem sc_are_counts : FnScope N_are_counts ["thing", "many"] (defScope s_are_counts) := ⟨rfl, rfl, rfl, by decide +kernel, rfl, by decide +kernel, by decide +kernel⟩
variable {P : Program} {w : World} {K : PySem.W.Frag} {mg : Str → Option Value} {base : Heap} {f aCoinError aBadNumber aBadPayment aBadCoins : Addr} {fd : FuncData}
def cntQ (d : D) : Bool := match d with
  | .int i => decide (0 ≤ i)
  | _ => false
def cntsOf (d : D) (m : Int) : Bool := match d with
  | .tup l => decide ((l.length : Int) = m) && l.all cntQ
  | _ => false
/-- plain, and the items of a tuple too -/
def plT2 (d : D) : Bool := plD d && match d with
  | .tup l => decide (l.length < 100000) && l.all plD
  | _ => true
def A_are_counts (ds : List D) (r : Res) : Prop := ∃ d m, ds = [d, .int m] ∧ plT2 d = true ∧ r = .ok (.bl (cntsOf d m))
theorem ok_are_counts (T : Blt mg) (F_is_integer : FnV P w K mg base 1 "is_integer" (detS A_is_integer)) (F_is_tuple_of : FnV P w K mg base 1 "is_tuple_of" (detS A_is_tuple_of)) (Fu : Fun K "are_counts" "are_counts" s_are_counts f fd) (hb : Binds K fd ["thing", "many"] []) (hm : mg "are_counts" = some (.ref f)) : FnV P w K mg base 2 "are_counts" (detS A_are_counts) := by
  refine fn_pure (k := 1) Fu sc_are_counts hb hm (fun ds r ⟨d, m, e, _⟩ => by subst e; rfl) fun cdv A' outer s H E hr B ds r ⟨d, m, e, hp, er⟩ => ?_
  subst e er
  have hpd : plD d = true := (Bool.and_eq_true_iff.mp hp).1
  cases ht : tupOf d m with
  | false =>
    have h2 : cntsOf d m = false := by
      cases d <;> first | rfl | (unfold tupOf at ht; unfold cntsOf; simp only at ht ⊢; rw [ht]; rfl)
    refine css_ret (c_and (k := false) (l := false) ((c_call F_is_tuple_of (hr.mono (by decide)) (d_cons (c_var 0) (d_cons (c_var 1) d_nil)) (fun R h => ⟨_, _, rfl, ⟨_, _, rfl, hpd, rfl⟩, h⟩)).eq (by rw [ht])) (fun h => Bool.noConfusion h)) ?_
    show _ = Except.ok (D.bl (false && false))
    rw [h2]
    rfl
  | true =>
    obtain ⟨l, rfl⟩ : ∃ l, d = .tup l := by cases d <;> first | exact ⟨_, rfl⟩ | cases ht
    unfold plT2 at hp
    simp only [Bool.and_eq_true, decide_eq_true_eq] at hp
    obtain ⟨_, hl, hall⟩ := hp
    rw [List.all_eq_true] at hall
    refine css_ret (c_and (c_call F_is_tuple_of (hr.mono (by decide)) (d_cons (c_var 0) (d_cons (c_var 1) d_nil)) (fun R h => ⟨_, _, rfl, ⟨_, _, rfl, hpd, rfl⟩, h⟩)) (fun _ => (c_one (c_allL B.calm T.all (bs := l.map cntQ) ((CN.ce (n_lc0 (T := .nm 2) (fun d => .bl (cntQ d)) (ci_tup (c_var 0)) [("item", 2)] B (blkOk_by (N := N_are_counts) (sc := defScope s_are_counts) (by decide +kernel)) (fun _ _ _ _ _ => tg_nm 2 B.nd) (by decide) (fun k p ds hk h => by rcases k with _ | _ | _ | k <;> cases h) (fun i d hd => ?_) (szl hl))).eq (by rw [List.map_map]; rfl)))))) ?_
    · have hpx := hall d (List.mem_of_getElem? hd)
      cases hi : intQ d with
      | true =>
        obtain ⟨c, rfl⟩ : ∃ c, d = .int c := by cases d <;> first | exact ⟨_, rfl⟩ | cases hi
        exact ⟨_, .nm, (fun k p es h => by rcases k with _ | _ | _ | k <;> cases h), fun _ _ _ _ _ => CE.eq (c_and (c_call F_is_integer (hr.mono (by decide)) (d_cons (c_var 2) d_nil) (fun R h => ⟨_, _, rfl, ⟨_, rfl, rfl, rfl⟩, h⟩)) (fun _ => c_one (c_ge (c_var 2) c_int))) (by rfl)⟩
      | false =>
        have hq : cntQ d = false := by cases d <;> first | rfl | cases hi
        refine ⟨_, .nm, (fun k p es h => by rcases k with _ | _ | _ | k <;> cases h), fun _ _ _ _ _ => CE.eq (c_and (k := false) (l := false) (CE.eq (c_call F_is_integer (hr.mono (by decide)) (d_cons (c_var 2) d_nil) (fun R h => ⟨_, _, rfl, ⟨_, rfl, hpx, rfl⟩, h⟩)) (by rw [hi])) (fun h => Bool.noConfusion h)) (by rw [hq]; rfl)⟩
    · show _ = Except.ok (D.bl (_ && _))
      show Except.ok (D.bl (decide ((l.length : Int) = m) && l.all cntQ)) = Except.ok (D.bl (decide ((l.length : Int) = m) && (l.map cntQ).all id))
      rw [List.all_map]; rfl
end KK
end

section
set_option Elab.async false
set_option linter.all false
set_option maxRecDepth 100000
set_option maxHeartbeats 4000000
namespace KK
open PySem PySem.Spec PyProof.Rows L2 VL
abbrev s_check_ladder : Stmt := topS 13
abbrev N_check_ladder : List Str := ["coins", "at", "coin"]
theorem sc_check_ladder : FnScope N_check_ladder ["coins"] (defScope s_check_ladder) := ⟨rfl, rfl, rfl, by decide +kernel, rfl, by decide +kernel, by decide +kernel⟩
variable {P : Program} {w : World} {K : PySem.W.Frag} {mg : Str → Option Value} {base : Heap} {f aCoinError aBadNumber aBadPayment aBadCoins : Addr} {fd : FuncData}
def okAt (l : List D) (i : Nat) : Bool := match l[i]? with
  | some (.int c) => decide (1 ≤ c) && decide (c ≤ c_MOST_COIN) && (if i = 0 then decide (c = 1) else match l[i - 1]? with
    | some (.int p) => decide (p < c) && decide (c % p = 0)
    | _ => false)
  | _ => false
def ladBad (l : List D) : Option Nat := (List.range l.length).find? fun j => !okAt l j
def ladRes (C : Addr) (d : D) : Res := match d with
  | .tup l => if 1 ≤ l.length ∧ l.length ≤ 60 then (match ladBad l with
    | some j => .error ⟨C, [("at", .int (j : Nat))]⟩
    | none => .ok .non) else .error ⟨C, [("at", .int (-1))]⟩
  | _ => .error ⟨C, [("at", .int (-1))]⟩
def plT (d : D) : Bool := match d with
  | .tup l => l.all plD
  | d => plD d
def A_check_ladder (C : Addr) (ds : List D) (r : Res) : Prop := ∃ d, ds = [d] ∧ plT d = true ∧ r = ladRes C d
theorem ladBad_some {l : List D} {i : Nat} (hi : i < l.length) (h : ∀ j, j < i → okAt l j = true) (hb : okAt l i = false) : ladBad l = some i := by
  unfold ladBad
  rw [List.find?_eq_some_iff_getElem]
  refine ⟨by rw [hb]; rfl, i, by rw [List.length_range]; exact hi, by rw [List.getElem_range], fun j hj => ?_⟩
  rw [List.getElem_range, h j hj]
  rfl
theorem ladBad_none {l : List D} (h : ∀ j, j < l.length → okAt l j = true) : ladBad l = none := by
  unfold ladBad
  rw [List.find?_eq_none]
  intro j hj
  rw [List.mem_range] at hj
  rw [h j hj]
  decide
theorem ok_check_ladder (T : Blt mg) (E_BadCoins : EX1 P w K mg base "BadCoins" "at" aBadCoins) (F_is_integer : FnV P w K mg base 1 "is_integer" (detS A_is_integer)) (Fu : Fun K "check_ladder" "check_ladder" s_check_ladder f fd) (hb : Binds K fd ["coins"] []) (hm : mg "check_ladder" = some (.ref f)) : FnV P w K mg base 3 "check_ladder" (detS (A_check_ladder aBadCoins)) := by
  refine fn_pure (k := 2) Fu sc_check_ladder hb hm (fun ds r ⟨d, e, _⟩ => by subst e; rfl) fun cdv A' outer s H E hr B ds r ⟨d, e, hp, er⟩ => ?_
  subst e er
  have TB := E_BadCoins (cx P w K mg base ["coins", "at", "coin"] "check_ladder" s_check_ladder f cdv A' outer s H E) rfl rfl rfl rfl rfl
  by_cases ht : ∃ l, d = .tup l
  · obtain ⟨l, rfl⟩ := ht
    refine css_if (t_w (w_or (t_not (t_val (c_isi T.isinstance (c_var 0) (c_bty "tuple" T.tuple) rfl rfl))) (fun _ => (w_or1 (t_not (t_leLe c_int (c_lenT T.len (c_var 0)) (fun _ => (c_gint T.MOST_COINS)))))))) (fun hc => ?_) (fun hc => ?_)
    · refine css_raise1 B TB (hr.mono (by decide)) (c_neg c_int) ?_
      show ladRes aBadCoins (.tup l) = _
      have h1 : ¬ (1 ≤ l.length ∧ l.length ≤ 60) := by
        simp [isT, tyD] at hc
        omega
      unfold ladRes
      simp only [if_neg h1]
    · have h1 : 1 ≤ l.length ∧ l.length ≤ 60 := by
        simp [isT, tyD] at hc
        omega
      refine css_nil ?_
      have hl : ladRes aBadCoins (.tup l) = (match ladBad l with
        | some j => .error ⟨aBadCoins, [("at", .int (j : Nat))]⟩
        | none => .ok .non) := by
        unfold ladRes
        simp only [if_pos h1]
      refine css_for (T := .tp [.nm 1, .nm 2]) B (ci_enumT T.enumerate (c_var 0)) (tg_tp rfl (tgs_cons (tg_nm 1 B.nd) (tgs_cons (tg_nm 2 B.nd) tgs_nil)))
        (fun i ρ => (∃ a b, ρ = [.dat (.tup l), a, b]) ∧ ∀ j, j < i → okAt l j = true) ⟨⟨_, _, rfl⟩, fun j hj => absurd hj (Nat.not_lt_zero j)⟩ (fun i d ρ hd hJ => ?_) (fun ρ hJ => ?_)
      · obtain ⟨x, hx, rfl⟩ := enumD_inv hd
        obtain ⟨⟨a, b, rfl⟩, hj⟩ := hJ
        have hlt := (List.getElem?_eq_some_iff.mp hx).1
        have hpx : plD x = true := List.all_eq_true.mp hp x (List.mem_of_getElem? hx)
        refine ⟨_, .tp (.cons .nm (.cons .nm .nil)), ?_⟩
        cases hi : intQ x with
        | false =>
          have hbad : okAt l i = false := by
            unfold okAt
            rw [hx]
            cases x <;> first | rfl | cases hi
          refine css_if (k := true) (t_w (w_or (k := true) (l := false) (CT.eq (t_not (t_val (c_call F_is_integer (hr.mono (by decide)) (d_cons (c_var 2) d_nil) (fun R h => ⟨_, _, rfl, ⟨_, rfl, hpx, rfl⟩, h⟩)))) (by rw [hi]; rfl)) (fun h => Bool.noConfusion h))) (fun hc => ?_) (fun hc => Bool.noConfusion hc)
          refine css_raise1 B TB (hr.mono (by decide)) (c_var 1) ?_
          show ladRes aBadCoins (.tup l) = _
          rw [hl, ladBad_some hlt hj hbad]
        | true =>
          obtain ⟨c, rfl⟩ : ∃ c, x = .int c := by cases x <;> first | exact ⟨_, rfl⟩ | cases hi
          refine css_if (t_w (w_or (t_not (t_val (c_call F_is_integer (hr.mono (by decide)) (d_cons (c_var 2) d_nil) (fun R h => ⟨_, _, rfl, ⟨_, rfl, rfl, rfl⟩, h⟩)))) (fun _ => (w_or1 (t_not (t_leLe c_int (c_var 2) (fun _ => (c_gint T.MOST_COIN)))))))) (fun hc => ?_) (fun hc => ?_)
          · refine css_raise1 B TB (hr.mono (by decide)) (c_var 1) ?_
            show ladRes aBadCoins (.tup l) = _
            have hbad : okAt l i = false := by
              unfold okAt
              rw [hx]
              simp [intQ] at hc
              by_cases h : 1 ≤ c
              · have h2 : ¬ c ≤ c_MOST_COIN := by omega
                simp [h2]
              · simp [h]
            rw [hl, ladBad_some hlt hj hbad]
          · have hr1 : 1 ≤ c ∧ c ≤ c_MOST_COIN := by
              simp [intQ] at hc
              omega
            refine css_nil ?_
            cases i with
            | zero =>
              refine css_if (t_w (w_or (t_w (w_and (t_eqI (c_var 1) c_int) (fun _ => (w_and1 (t_neI (c_var 2) c_int))))) (fun _ => (w_or1 (t_w (w_and (l := false) (t_gt (c_var 1) c_int) (fun h => absurd h (by decide)))))))) (fun hc => ?_) (fun hc => ?_)
              · refine css_raise1 B TB (hr.mono (by decide)) (c_var 1) ?_
                show ladRes aBadCoins (.tup l) = _
                have hbad : okAt l 0 = false := by
                  unfold okAt
                  rw [hx]
                  simp at hc
                  simp [hc]
                rw [hl, ladBad_some hlt hj hbad]
              · refine css_nil (css_nil ⟨⟨_, _, rfl⟩, fun j hj' => ?_⟩)
                obtain rfl : j = 0 := by omega
                unfold okAt
                rw [hx]
                simp at hc
                subst hc
                simp
                exact hr1.2
            | succ i =>
              obtain ⟨pv, hpv⟩ : ∃ pv, l[i]? = some (.int pv) := by
                have h := hj i (Nat.lt_succ_self i)
                unfold okAt at h
                cases q : l[i]? with
                | none => rw [q] at h; cases h
                | some y =>
                  rw [q] at h
                  cases y <;> first | exact ⟨_, rfl⟩ | cases h
              have hp1 : 1 ≤ pv := by
                have h := hj i (Nat.lt_succ_self i)
                unfold okAt at h
                rw [hpv] at h
                simp at h
                exact h.1.1
              have hat : atI l (((i + 1 : Nat) : Int) - 1) = some (.int pv) := atI_i (k := i) (by omega) hpv
              refine css_if (t_w (w_or (t_w (w_and (l := false) (t_eqI (c_var 1) c_int) (fun h => absurd (of_decide_eq_true h) (by omega)))) (fun _ => (w_or1 (t_w (w_and (t_gt (c_var 1) c_int) (fun _ => (w_and1 (t_w (w_or (t_le (c_var 2) (c_ixT (c_var 0) (c_sub (c_var 1) c_int) hat)) (fun _ => (w_or1 (t_neI (c_mod (c_var 2) (c_ixT (c_var 0) (c_sub (c_var 1) c_int) hat) (by omega)) c_int))))))))))))) (fun hc => ?_) (fun hc => ?_)
              · refine css_raise1 B TB (hr.mono (by decide)) (c_var 1) ?_
                show ladRes aBadCoins (.tup l) = _
                have hbad : okAt l (i + 1) = false := by
                  unfold okAt
                  rw [hx]
                  simp at hc
                  simp [hpv]
                  intro _ _ h
                  rcases hc with h2 | h2
                  · omega
                  · exact h2
                rw [hl, ladBad_some hlt hj hbad]
              · refine css_nil (css_nil ⟨⟨_, _, rfl⟩, fun j hj' => ?_⟩)
                by_cases hji : j < i + 1
                · exact hj j hji
                · obtain rfl : j = i + 1 := by omega
                  unfold okAt
                  rw [hx]
                  simp at hc
                  simp [hr1, hpv, hc]
      · refine css_nil ?_
        show ladRes aBadCoins (.tup l) = _
        obtain ⟨_, hj⟩ := hJ
        rw [hl, ladBad_none fun j h => hj j (by rw [enumD_len]; exact h)]
  · have hres : ladRes aBadCoins d = .error ⟨aBadCoins, [("at", .int (-1))]⟩ := by
      unfold ladRes
      cases d <;> first | rfl | exact absurd ⟨_, rfl⟩ ht
    have hpd : plD d = true := by cases d <;> first | rfl | exact absurd ⟨_, rfl⟩ ht | exact hp
    have hf : isT "tuple" d = false := by cases d <;> first | rfl | exact absurd ⟨_, rfl⟩ ht
    refine css_if (k := true) (t_w (w_or (k := true) (l := false) (CT.eq (t_not (t_val (c_isi T.isinstance (c_var 0) (c_bty "tuple" T.tuple) hpd rfl))) (by rw [hf]; rfl)) (fun h => Bool.noConfusion h))) (fun hc => ?_) (fun hc => Bool.noConfusion hc)
    refine css_raise1 B TB (hr.mono (by decide)) (c_neg c_int) ?_
    show ladRes aBadCoins d = _
    rw [hres]
end KK
end

section
set_option Elab.async false
set_option linter.all false
set_option maxRecDepth 100000
set_option maxHeartbeats 4000000
namespace KK
open PySem PySem.Spec PyProof.Rows L2 VL
abbrev s_digits_of : Stmt := topS 14
abbrev N_digits_of : List Str := ["coins", "number", "found", "rest", "at"]
theorem sc_digits_of : FnScope N_digits_of ["coins", "number"] (defScope s_digits_of) := ⟨rfl, rfl, rfl, by decide +kernel, rfl, by decide +kernel, by decide +kernel⟩
variable {P : Program} {w : World} {K : PySem.W.Frag} {mg : Str → Option Value} {base : Heap} {f aCoinError aBadNumber aBadPayment aBadCoins : Addr} {fd : FuncData}
def digGo : List Int → Int → List Int × Int
  | [], n => ([], n)
  | c :: cs, n => let p := digGo cs n; (p.2 / c :: p.1, p.2 % c)
def digitsOf (cs : List Int) (n : Int) : List Int := (digGo cs n).1
theorem digGo_len : ∀ (cs : List Int) (n : Int), (digGo cs n).1.length = cs.length
  | [], _ => rfl
  | c :: cs, n => by
    show (digGo cs n).1.length + 1 = cs.length + 1
    rw [digGo_len]
theorem digitsOf_len (cs : List Int) (n : Int) : (digitsOf cs n).length = cs.length := digGo_len cs n
def Dv (c : Int) : Prop := 0 < c ∧ c.natAbs.log2 < 9000
def A_digits_of (ds : List D) (r : Res) : Prop := ∃ cs n, ds = [.tup (cs.map D.int), .int n] ∧ (∀ c ∈ cs, Dv c) ∧ cs.length ≤ 1000 ∧ r = .ok (.tup ((digitsOf cs n).map D.int))
def digAt (cs : List Int) (n : Int) (k : Nat) : List Int := List.replicate k 0 ++ (digGo (cs.drop k) n).1
theorem digAt_step {cs : List Int} {n : Int} {k : Nat} {c : Int} (h : cs[k]? = some c) : (digAt cs n (k + 1)).set k ((digGo (cs.drop (k + 1)) n).2 / c) = digAt cs n k ∧ (digGo (cs.drop k) n).2 = (digGo (cs.drop (k + 1)) n).2 % c := by
  have hk : k < cs.length := (List.getElem?_eq_some_iff.mp h).1
  have hd : cs.drop k = c :: cs.drop (k + 1) := by
    rw [List.drop_eq_getElem_cons hk]
    congr 1
    rw [List.getElem?_eq_getElem hk] at h
    exact Option.some.inj h
  unfold digAt
  rw [hd]
  refine ⟨?_, rfl⟩
  rw [List.replicate_succ', List.append_assoc, List.set_append, if_neg (by rw [List.length_replicate]; omega), List.length_replicate, Nat.sub_self]
  rfl
theorem ok_digits_of (T : Blt mg) (Fu : Fun K "digits_of" "digits_of" s_digits_of f fd) (hb : Binds K fd ["coins", "number"] []) (hm : mg "digits_of" = some (.ref f)) : FnV P w K mg base 1 "digits_of" (detS A_digits_of) := by
  refine fn_pure (k := 0) Fu sc_digits_of hb hm (fun ds r ⟨d, n, e, _⟩ => by subst e; rfl) fun cdv A' outer s H E hr B ds r ⟨cs, n, e, hcs, hl, er⟩ => ?_
  subst e er
  have hlen : (cs.map D.int).length = cs.length := List.length_map _
  refine css_parN 2 3 B (n_repL (CN.ce (n_lst (d_cons c_int d_nil) (by decide))) (c_lenT T.len (c_var 0)) (by rw [hlen]; omega) (by rw [hlen]; exact sz (by simp; omega))) (c_var 1) (fun q => ?_)
  have e0 : (List.replicate (((cs.map D.int).length : Int)).toNat [D.int 0]).flatten = (digAt cs n cs.length).map D.int := by
    rw [flat1, hlen, Int.toNat_natCast]
    unfold digAt
    rw [List.drop_length, List.map_append, List.map_replicate]
    show _ = _ ++ []
    rw [List.append_nil]
  rw [e0]
  refine css_for (T := .nm 4) B (ci_down T.range (c_sub (c_lenT T.len (c_var 0)) c_int) (c_neg c_int) (c_neg c_int) (by rw [hlen]; omega)) (tg_nm 4 B.nd)
    (fun i ρ => i ≤ cs.length ∧ ∃ a, ρ = [.dat (.tup (cs.map D.int)), .dat (.int n), .mut q ((digAt cs n (cs.length - i)).map D.int), .dat (.int (digGo (cs.drop (cs.length - i)) n).2), a]) ⟨Nat.zero_le _, _, by rw [Nat.sub_zero, List.drop_length]; rfl⟩ (fun i d ρ hd hJ => ?_) (fun ρ hJ => ?_)
  · obtain ⟨hi, rfl⟩ := rangeDn_inv hd
    obtain ⟨_, a, rfl⟩ := hJ
    have hi' : i < cs.length := by rw [hlen] at hi; omega
    refine ⟨_, .nm, ?_⟩
    obtain ⟨k, hk⟩ : ∃ k, cs.length - i = k + 1 := ⟨cs.length - i - 1, by omega⟩
    have hc : cs[k]? = some (cs[k]'(by omega)) := List.getElem?_eq_getElem _
    generalize cs[k]'(by omega) = c at hc
    have hat : atI (cs.map D.int) (((cs.map D.int).length : Int) - 1 - (i : Nat)) = some (.int c) := atI_i (k := k) (by rw [hlen]; omega) (at_ints hc)
    have hdv := hcs c (List.mem_of_getElem? hc)
    obtain ⟨s1, s2⟩ := digAt_step (n := n) hc
    rw [hk]
    refine css_setIxNm (j := k) 2 3 B (c_tup (d_cons (c_divW (c_var 3) (c_ixT (c_var 0) (c_var 4) hat) hdv) (d_cons (c_mod (c_var 3) (c_ixT (c_var 0) (c_var 4) hat) hdv.1) d_nil)) (sz (by simp))) (c_var 4) rfl (ixN_nat (by rw [hlen]; omega) (by rw [List.length_map]; unfold digAt; rw [List.length_append, List.length_replicate, digGo_len]; omega)) ?_
    refine css_nil ⟨by omega, .dat (.int (((cs.map D.int).length : Int) - 1 - (i : Nat))), ?_⟩
    have e3 : cs.length - (i + 1) = k := by omega
    rw [e3, ← s1, s2, List.map_set]
    rfl
  · obtain ⟨_, a, rfl⟩ := hJ
    have e4 : (rangeDn (((cs.map D.int).length : Int) - 1) (((cs.map D.int).length : Int) - 1 - -1).toNat).length = cs.length := by rw [rangeDn_len, hlen]; omega
    rw [e4, Nat.sub_self]
    refine css_ret (c_bor ?_ (c_tupL T.tuple (c_var 2))) ?_
    · exact immutL_ints _
    · rfl
end KK
end

section
set_option Elab.async false
set_option linter.all false
set_option maxRecDepth 100000
set_option maxHeartbeats 4000000
namespace KK
open PySem PySem.Spec PyProof.Rows L2 VL
abbrev s_check_amount : Stmt := topS 15
abbrev N_check_amount : List Str := ["number"]
theorem sc_check_amount : FnScope N_check_amount ["number"] (defScope s_check_amount) := ⟨rfl, rfl, rfl, by decide +kernel, rfl, by decide +kernel, by decide +kernel⟩
variable {P : Program} {w : World} {K : PySem.W.Frag} {mg : Str → Option Value} {base : Heap} {f aCoinError aBadNumber aBadPayment aBadCoins : Addr} {fd : FuncData}
def A_check_amount (C : Addr) (ds : List D) (r : Res) : Prop := ∃ d, ds = [d] ∧ plD d = true ∧ r = if within d 0 (c_MOST_COIN * c_MOST_COIN) then .ok .non else .error ⟨C, []⟩
theorem mc_mul : CMulW c_MOST_COIN c_MOST_COIN := by unfold CMulW c_MOST_COIN; decide +kernel
theorem ok_check_amount (T : Blt mg) (E_BadNumber : EX0 P w K mg base "BadNumber" aBadNumber) (F_is_within : FnV P w K mg base 2 "is_within" (detS A_is_within)) (Fu : Fun K "check_amount" "check_amount" s_check_amount f fd) (hb : Binds K fd ["number"] []) (hm : mg "check_amount" = some (.ref f)) : FnV P w K mg base 3 "check_amount" (detS (A_check_amount aBadNumber)) := by
  refine fn_pure (k := 2) Fu sc_check_amount hb hm (fun ds r ⟨d, e, _⟩ => by subst e; rfl) fun cdv A' outer s H E hr B ds r ⟨d, e, hp, er⟩ => ?_
  subst e er
  have TB := E_BadNumber (cx P w K mg base ["number"] "check_amount" s_check_amount f cdv A' outer s H E) rfl rfl rfl rfl rfl
  refine css_if (t_not (t_val (c_call F_is_within (hr.mono (by decide)) (d_cons (c_var 0) (d_cons c_int (d_cons (c_mulW (c_gint T.MOST_COIN) (c_gint T.MOST_COIN) mc_mul) d_nil))) (fun R h => ⟨_, _, rfl, ⟨_, _, _, rfl, hp, rfl⟩, h⟩)))) (fun hc => ?_) (fun hc => ?_)
  · refine css_raise0 B TB ?_
    show (if within d 0 (c_MOST_COIN * c_MOST_COIN) = true then _ else _) = _
    rw [if_neg (by simpa using hc)]
  · refine css_nil (css_nil ?_)
    show (if within d 0 (c_MOST_COIN * c_MOST_COIN) = true then _ else _) = _
    rw [if_pos (by simpa using hc)]
end KK
end

section
set_option Elab.async false
set_option linter.all false
set_option maxRecDepth 100000
set_option maxHeartbeats 4000000
namespace KK
open PySem PySem.Spec PyProof.Rows L2 VL
structure Lad (cs : List Int) : Prop where
  ne : 1 ≤ cs.length
  one : cs.getD 0 0 = 1
  pos : ∀ c ∈ cs, 1 ≤ c ∧ c ≤ c_MOST_COIN
  up : ∀ k, k + 1 < cs.length → cs.getD k 0 < cs.getD (k + 1) 0 ∧ cs.getD (k + 1) 0 % cs.getD k 0 = 0
theorem lad_of {d : D} {C : Addr} (h : ladRes C d = .ok .non) : ∃ cs, d = .tup (cs.map D.int) ∧ Lad cs ∧ cs.length ≤ 60 := by
  unfold ladRes at h
  cases d with
  | tup l =>
    by_cases hl : 1 ≤ l.length ∧ l.length ≤ 60
    · simp only [if_pos hl] at h
      have hb : ladBad l = none := by
        cases q : ladBad l with
        | none => rfl
        | some j => rw [q] at h; cases h
      have hok : ∀ j, j < l.length → okAt l j = true := fun j hj => by
        unfold ladBad at hb
        rw [List.find?_eq_none] at hb
        have := hb j (List.mem_range.mpr hj)
        simpa using this
      have hint : ∀ j, j < l.length → ∃ c, l[j]? = some (.int c) ∧ 1 ≤ c ∧ c ≤ c_MOST_COIN ∧ (j = 0 → c = 1) := fun j hj => by
        have h1 := hok j hj
        unfold okAt at h1
        cases q : l[j]? with
        | none => rw [q] at h1; cases h1
        | some x =>
          rw [q] at h1
          cases x with
          | int c =>
            refine ⟨c, rfl, ?_⟩
            simp only [Bool.and_eq_true, decide_eq_true_eq] at h1
            refine ⟨h1.1.1, h1.1.2, fun e => ?_⟩
            have := h1.2
            rw [if_pos e] at this
            exact of_decide_eq_true this
          | _ => cases h1
      have hall : ∃ cs : List Int, l = cs.map D.int := by
        refine ⟨l.map fun x => match x with | .int c => c | _ => 0, ?_⟩
        rw [List.map_map]
        apply List.ext_getElem?
        intro j
        rw [List.getElem?_map]
        cases q : l[j]? with
        | none => rfl
        | some x =>
          obtain ⟨c, h2, _⟩ := hint j (List.getElem?_eq_some_iff.mp q).1
          rw [q] at h2
          cases h2
          rfl
      obtain ⟨cs, rfl⟩ := hall
      rw [List.length_map] at hl hint hok
      have hget : ∀ j, j < cs.length → (cs.map D.int)[j]? = some (.int (cs.getD j 0)) := fun j hj => by
        rw [List.getElem?_map, List.getD_eq_getElem?_getD, List.getElem?_eq_getElem hj]
        rfl
      refine ⟨cs, rfl, ⟨hl.1, ?_, fun c hc => ?_, fun k hk => ?_⟩, hl.2⟩
      · obtain ⟨c, h2, _, _, h3⟩ := hint 0 hl.1
        rw [hget 0 hl.1] at h2
        cases h2
        exact h3 rfl
      · obtain ⟨j, hj⟩ := List.getElem?_of_mem hc
        have hlt := (List.getElem?_eq_some_iff.mp hj).1
        obtain ⟨c', h2, h3, h4, _⟩ := hint j hlt
        rw [List.getElem?_map, hj] at h2
        cases h2
        exact ⟨h3, h4⟩
      · have h1 := hok (k + 1) hk
        unfold okAt at h1
        rw [hget (k + 1) hk] at h1
        simp only [Nat.add_sub_cancel, hget k (by omega), Bool.and_eq_true, decide_eq_true_eq] at h1
        have h2 := h1.2
        rw [if_neg (by omega)] at h2
        simp only [Bool.and_eq_true, decide_eq_true_eq] at h2
        exact h2
    · simp only [if_neg hl] at h
      cases h
  | _ => cases h
theorem Lad.at {cs : List Int} (l : Lad cs) {k : Nat} (hk : k < cs.length) : cs[k]? = some (cs.getD k 0) ∧ 1 ≤ cs.getD k 0 ∧ cs.getD k 0 ≤ c_MOST_COIN := by
  have h : cs[k]? = some (cs.getD k 0) := by
    rw [List.getD_eq_getElem?_getD, List.getElem?_eq_getElem hk]
    rfl
  exact ⟨h, l.pos _ (List.mem_of_getElem? h)⟩
theorem lad_bad {cs : List Int} (l : Lad cs) (h : cs.length ≤ 60) (C : Addr) : ladRes C (.tup (cs.map D.int)) = .ok .non := by
  have hok : ∀ j, j < (cs.map D.int).length → okAt (cs.map D.int) j = true := fun j hj => by
    rw [List.length_map] at hj
    obtain ⟨h1, h2, h3⟩ := l.at hj
    unfold okAt
    rw [at_ints h1]
    cases j with
    | zero =>
      simp only [Bool.and_eq_true, decide_eq_true_eq, if_true]
      exact ⟨⟨h2, h3⟩, l.one⟩
    | succ k =>
      obtain ⟨h4, h5, h6⟩ := l.at (k := k) (by omega)
      obtain ⟨h7, h8⟩ := l.up k hj
      simp only [Nat.add_sub_cancel, at_ints h4, Bool.and_eq_true, decide_eq_true_eq]
      refine ⟨⟨h2, h3⟩, ?_⟩
      rw [if_neg (by omega)]
      simp only [Bool.and_eq_true, decide_eq_true_eq]
      exact ⟨h7, h8⟩
  unfold ladRes
  have h1 := l.ne
  simp only [List.length_map, h1, h, and_self, if_true, ladBad_none hok]
theorem mc_bits : c_MOST_COIN.natAbs < 2 ^ 333 := by unfold c_MOST_COIN; decide +kernel
theorem dv_of {c : Int} (h : 1 ≤ c ∧ c ≤ c_MOST_COIN) : Dv c := by
  refine ⟨by omega, ?_⟩
  have h1 : c.natAbs < 2 ^ 333 := Nat.lt_of_le_of_lt (by omega) mc_bits
  have h2 := (Nat.log2_lt (n := c.natAbs) (k := 333) (by omega)).mpr h1
  omega
theorem digGo_pos : ∀ (cs : List Int) (n : Int), (∀ c ∈ cs, 1 ≤ c) → 0 ≤ n → (∀ d ∈ (digGo cs n).1, 0 ≤ d ∧ d ≤ n) ∧ 0 ≤ (digGo cs n).2 ∧ (digGo cs n).2 ≤ n
  | [], n, _, hn => ⟨fun d h => (by cases h), hn, Int.le_refl n⟩
  | c :: cs, n, hc, hn => by
    obtain ⟨h1, h2, h3⟩ := digGo_pos cs n (fun x hx => hc x (List.mem_cons_of_mem _ hx)) hn
    have c1 : 1 ≤ c := hc c List.mem_cons_self
    have e1 : 0 ≤ (digGo cs n).2 / c := Int.ediv_nonneg h2 (by omega)
    have e2 : (digGo cs n).2 / c ≤ (digGo cs n).2 := Int.ediv_le_self _ h2
    have e3 : 0 ≤ (digGo cs n).2 % c := Int.emod_nonneg _ (by omega)
    have e5 := Int.emod_add_mul_ediv (digGo cs n).2 c
    have e6 : 0 ≤ c * ((digGo cs n).2 / c) := Int.mul_nonneg (by omega) e1
    have e4 : (digGo cs n).2 % c ≤ (digGo cs n).2 := by omega
    refine ⟨fun d hd => ?_, e3, by show (digGo cs n).2 % c ≤ n; omega⟩
    rcases List.mem_cons.mp hd with rfl | hd
    · exact ⟨e1, by omega⟩
    · exact h1 d hd
theorem Lad.push {cs : List Int} (l : Lad cs) {c : Int} (h1 : cs.getD (cs.length - 1) 0 < c) (h2 : c % cs.getD (cs.length - 1) 0 = 0) (h3 : c ≤ c_MOST_COIN) : Lad (cs ++ [c]) := by
  have hl := l.ne
  have g : ∀ j, j < cs.length → (cs ++ [c]).getD j 0 = cs.getD j 0 := fun j hj => by
    rw [List.getD_eq_getElem?_getD, List.getD_eq_getElem?_getD, List.getElem?_append_left hj]
  have gl : (cs ++ [c]).getD cs.length 0 = c := by
    rw [List.getD_eq_getElem?_getD, List.getElem?_append_right (Nat.le_refl _), Nat.sub_self]; rfl
  have hp := (l.at (k := cs.length - 1) (by omega)).2
  refine ⟨by rw [List.length_append]; omega, by rw [g 0 (by omega)]; exact l.one, fun x hx => ?_, fun k hk => ?_⟩
  · rcases List.mem_append.mp hx with hx | hx
    · exact l.pos x hx
    · rw [List.mem_singleton] at hx
      subst hx
      exact ⟨by omega, h3⟩
  · rw [List.length_append] at hk
    simp at hk
    by_cases e : k + 1 < cs.length
    · rw [g k (by omega), g (k + 1) e]; exact l.up k e
    · have e2 : k + 1 = cs.length := by omega
      have e3 : k = cs.length - 1 := by omega
      rw [g k (by omega), e2, gl, e3]
      exact ⟨h1, h2⟩
def badX (p : Option Int) : D → Bool
  | .int c => !(decide (1 ≤ c) && decide (c ≤ c_MOST_COIN) && match p with
    | none => decide (c = 1)
    | some p => decide (p < c) && decide (c % p = 0))
  | _ => true
theorem ladRes_set {cs : List Int} (l : Lad cs) (h60 : cs.length ≤ 60) {k : Nat} (hk : k < cs.length) {x : D} (hx : badX (if k = 0 then none else some (cs.getD (k - 1) 0)) x = true) (C : Addr) : ladRes C (.tup ((cs.map D.int).set k x)) = .error ⟨C, [("at", .int (k : Nat))]⟩ := by
  have el : ((cs.map D.int).set k x).length = cs.length := by rw [List.length_set, List.length_map]
  have gk : ((cs.map D.int).set k x)[k]? = some x := List.getElem?_set_self (by rw [List.length_map]; exact hk)
  have gn : ∀ j, j ≠ k → ((cs.map D.int).set k x)[j]? = (cs.map D.int)[j]? := fun j hj => List.getElem?_set_ne (Ne.symm hj)
  have hb : ladBad ((cs.map D.int).set k x) = some k := by
    refine ladBad_some (by rw [el]; exact hk) (fun j hj => ?_) ?_
    · unfold okAt
      rw [gn j (by omega), at_ints (l.at (k := j) (by omega)).1]
      have h1 := (l.at (k := j) (by omega)).2
      cases j with
      | zero =>
        simp only [Bool.and_eq_true, decide_eq_true_eq, if_true]
        exact ⟨⟨h1.1, h1.2⟩, l.one⟩
      | succ j =>
        have h2 := (l.at (k := j) (by omega)).1
        have h3 := l.up j (by omega)
        simp only [Nat.add_sub_cancel, gn j (by omega), at_ints h2, Bool.and_eq_true, decide_eq_true_eq]
        rw [if_neg (by omega)]
        simp only [Bool.and_eq_true, decide_eq_true_eq]
        exact ⟨⟨h1.1, h1.2⟩, h3⟩
    · unfold okAt
      rw [gk]
      cases x with
      | int c =>
        unfold badX at hx
        simp only at hx ⊢
        rw [Bool.not_eq_true'] at hx
        rw [← hx]
        by_cases e : k = 0
        · simp only [if_pos e]
        · simp only [if_neg e, gn (k - 1) (by omega), at_ints (l.at (k := k - 1) (by omega)).1]
      | _ => rfl
  unfold ladRes
  have hl := l.ne
  simp only [el, if_pos (show 1 ≤ cs.length ∧ cs.length ≤ 60 from ⟨hl, h60⟩), hb]
theorem pl_set {cs : List Int} {k : Nat} {x : D} (hx : plD x = true) : plT (.tup ((cs.map D.int).set k x)) = true := by
  unfold plT
  rw [List.all_eq_true]
  intro d hd
  rcases List.mem_or_eq_of_mem_set hd with h | h
  · obtain ⟨c, _, rfl⟩ := List.mem_map.mp h
    rfl
  · rw [h]; exact hx
theorem plT_ints (cs : List Int) : plT (.tup (cs.map D.int)) = true := by
  unfold plT
  rw [List.all_eq_true]
  intro d hd
  obtain ⟨c, _, rfl⟩ := List.mem_map.mp hd
  rfl
theorem Lad.take {cs : List Int} (l : Lad cs) {k : Nat} (h1 : 1 ≤ k) (h2 : k ≤ cs.length) : Lad (cs.take k) := by
  have g : ∀ j, j < k → (cs.take k).getD j 0 = cs.getD j 0 := fun j hj => by
    rw [List.getD_eq_getElem?_getD, List.getD_eq_getElem?_getD, List.getElem?_take_of_lt hj]
  have hl : (cs.take k).length = k := by rw [List.length_take]; omega
  exact ⟨by omega, by rw [g 0 (by omega)]; exact l.one, fun c hc => l.pos c (List.mem_of_mem_take hc), fun j hj => by rw [g j (by omega), g (j + 1) (by omega)]; exact l.up j (by omega)⟩
/-! ### carrying -/
def rat (cs : List Int) (k : Nat) : Int := cs.getD (k + 1) 0 / cs.getD k 0
/-- what comes to the k-th coin -/
def hereN (cs xs : List Int) : Nat → Int
  | 0 => 0
  | k + 1 => (xs.getD k 0 + hereN cs xs k) / rat cs k
def fndN (cs xs : List Int) (k : Nat) : Int := if k + 1 < cs.length then (xs.getD k 0 + hereN cs xs k) % rat cs k else xs.getD k 0 + hereN cs xs k
def carF (cs xs : List Int) : List Int := (List.range cs.length).map (fndN cs xs)
def carC (cs xs : List Int) : List Int := (List.range cs.length).map (hereN cs xs)
def wor (cs xs : List Int) : Int := sumTo (fun k => cs.getD k 0 * xs.getD k 0) cs.length
theorem Lad.rat {cs : List Int} (l : Lad cs) {k : Nat} (h : k + 1 < cs.length) : cs.getD (k + 1) 0 = cs.getD k 0 * rat cs k ∧ 2 ≤ rat cs k ∧ rat cs k ≤ c_MOST_COIN := by
  obtain ⟨h1, h2⟩ := l.up k h
  obtain ⟨_, h3, h4⟩ := l.at (k := k) (by omega)
  obtain ⟨_, h5, h6⟩ := l.at h
  have e : cs.getD (k + 1) 0 = cs.getD k 0 * KK.rat cs k := by
    unfold KK.rat
    have := Int.emod_add_mul_ediv (cs.getD (k + 1) 0) (cs.getD k 0)
    omega
  refine ⟨e, ?_, ?_⟩
  · rw [e] at h1
    by_cases h : KK.rat cs k ≤ 1
    · have : cs.getD k 0 * KK.rat cs k ≤ cs.getD k 0 * 1 := Int.mul_le_mul_of_nonneg_left h (by omega)
      omega
    · omega
  · unfold KK.rat
    have := Int.ediv_le_self (cs.getD k 0) (show 0 ≤ cs.getD (k + 1) 0 by omega)
    omega
theorem hereN_pos {cs xs : List Int} (l : Lad cs) (hx : ∀ x ∈ xs, 0 ≤ x) : ∀ k, k < cs.length → 0 ≤ hereN cs xs k
  | 0, _ => Int.le_refl _
  | k + 1, h => by
    have h1 := (l.rat h).2.1
    have h2 := hereN_pos l hx k (by omega)
    have h3 : 0 ≤ xs.getD k 0 := by
      rw [List.getD_eq_getElem?_getD]
      cases q : xs[k]? with
      | none => exact Int.le_refl _
      | some x => exact hx x (List.mem_of_getElem? q)
    exact Int.ediv_nonneg (by omega) (by omega)
/-- the sum up to a coin -/
theorem car_pre {cs xs : List Int} (l : Lad cs) : ∀ k, k < cs.length → sumTo (fun j => cs.getD j 0 * fndN cs xs j) k = sumTo (fun j => cs.getD j 0 * xs.getD j 0) k - cs.getD k 0 * hereN cs xs k
  | 0, _ => by
    show 0 = 0 - cs.getD 0 0 * 0
    omega
  | k + 1, h => by
    obtain ⟨h1, h2, _⟩ := l.rat h
    have ih := car_pre (xs := xs) l k (by omega)
    show sumTo _ k + cs.getD k 0 * fndN cs xs k = sumTo _ k + cs.getD k 0 * xs.getD k 0 - cs.getD (k + 1) 0 * ((xs.getD k 0 + hereN cs xs k) / rat cs k)
    rw [ih, h1]
    have e5 : fndN cs xs k = (xs.getD k 0 + hereN cs xs k) % rat cs k := by unfold fndN; rw [if_pos h]
    rw [e5]
    have e := Int.emod_add_mul_ediv (xs.getD k 0 + hereN cs xs k) (rat cs k)
    have e2 : cs.getD k 0 * ((xs.getD k 0 + hereN cs xs k) % rat cs k) + cs.getD k 0 * rat cs k * ((xs.getD k 0 + hereN cs xs k) / rat cs k) = cs.getD k 0 * xs.getD k 0 + cs.getD k 0 * hereN cs xs k := by
      rw [Int.mul_assoc, ← Int.mul_add, e, Int.mul_add]
    omega
theorem carF_len (cs xs : List Int) : (carF cs xs).length = cs.length := by unfold carF; rw [List.length_map, List.length_range]
theorem carC_len (cs xs : List Int) : (carC cs xs).length = cs.length := by unfold carC; rw [List.length_map, List.length_range]
theorem car_worth {cs xs : List Int} (l : Lad cs) : wor cs (carF cs xs) = wor cs xs := by
  have hn := l.ne
  unfold wor
  have e0 : sumTo (fun k => cs.getD k 0 * (carF cs xs).getD k 0) cs.length = sumTo (fun k => cs.getD k 0 * fndN cs xs k) cs.length := sumTo_congr _ fun t ht => by
    unfold carF
    rw [rng_getD ht]
  rw [e0]
  obtain ⟨m, hm⟩ : ∃ m, cs.length = m + 1 := ⟨cs.length - 1, by omega⟩
  rw [hm]
  show sumTo _ m + cs.getD m 0 * fndN cs xs m = sumTo _ m + cs.getD m 0 * xs.getD m 0
  rw [car_pre l m (by omega)]
  unfold fndN
  rw [if_neg (by omega), Int.mul_add]
  omega
/-- the weighed carries -/
def weiTo (cs ys : List Int) : Nat → Int
  | 0 => 0
  | k + 1 => weiTo cs ys k + ys.getD (k + 1) 0 * (rat cs k - 1)
def wei (cs ys : List Int) : Int := weiTo cs ys (cs.length - 1)
theorem car_sum_pre {cs xs : List Int} (l : Lad cs) : ∀ k, k < cs.length → sumTo (fun j => xs.getD j 0) k - sumTo (fndN cs xs) k = weiTo cs (carC cs xs) k - (hereN cs xs 0 - hereN cs xs k) - hereN cs xs 0 * 0 - (0 - 0)
  | 0, _ => by
    show (0 : Int) - 0 = 0 - (hereN cs xs 0 - hereN cs xs 0) - _ - _
    omega
  | k + 1, h => by
    have ih := car_sum_pre (xs := xs) l k (by omega)
    have e := Int.emod_add_mul_ediv (xs.getD k 0 + hereN cs xs k) (rat cs k)
    show sumTo _ k + xs.getD k 0 - (sumTo _ k + fndN cs xs k) = weiTo cs (carC cs xs) k + (carC cs xs).getD (k + 1) 0 * (rat cs k - 1) - (hereN cs xs 0 - (xs.getD k 0 + hereN cs xs k) / rat cs k) - _ - _
    have e1 : (carC cs xs).getD (k + 1) 0 = (xs.getD k 0 + hereN cs xs k) / rat cs k := by
      unfold carC
      rw [rng_getD h]
      rfl
    have e5 : fndN cs xs k = (xs.getD k 0 + hereN cs xs k) % rat cs k := by unfold fndN; rw [if_pos h]
    rw [e1, e5, Int.mul_sub, Int.mul_comm ((xs.getD k 0 + hereN cs xs k) / rat cs k) (rat cs k)]
    generalize rat cs k * ((xs.getD k 0 + hereN cs xs k) / rat cs k) = z at *
    omega
theorem car_sum {cs xs : List Int} (l : Lad cs) (hx : xs.length = cs.length) : xs.sum - (carF cs xs).sum = wei cs (carC cs xs) := by
  have hn := l.ne
  obtain ⟨m, hm⟩ : ∃ m, cs.length = m + 1 := ⟨cs.length - 1, by omega⟩
  have h1 := car_sum_pre (xs := xs) l m (by omega)
  have e1 : xs.sum = sumTo (fun j => xs.getD j 0) m + xs.getD m 0 := by rw [sum_getD, hx, hm]; rfl
  have e2 : (carF cs xs).sum = sumTo (fndN cs xs) m + fndN cs xs m := by
    unfold carF
    rw [sum_sumTo, hm]
    rfl
  have e3 : fndN cs xs m = xs.getD m 0 + hereN cs xs m := by unfold fndN; rw [if_neg (by omega)]
  have e4 : hereN cs xs 0 = 0 := rfl
  unfold wei
  rw [e1, e2, e3, hm, Nat.add_sub_cancel]
  rw [e4] at h1
  omega
theorem wei_pos {cs ys : List Int} (l : Lad cs) (hy : ∀ y ∈ ys, 0 ≤ y) : 0 ≤ wei cs ys := by
  have key : ∀ k, k < cs.length → 0 ≤ weiTo cs ys k := fun k => by
    induction k with
    | zero => intro _; exact Int.le_refl _
    | succ k ih =>
      intro h
      have h1 := (l.rat h).2.1
      have h3 : 0 ≤ ys.getD (k + 1) 0 := by
        rw [List.getD_eq_getElem?_getD]
        cases q : ys[k + 1]? with
        | none => exact Int.le_refl _
        | some x => exact hy x (List.mem_of_getElem? q)
      have := Int.mul_nonneg h3 (show 0 ≤ rat cs k - 1 by omega)
      have := ih (by omega)
      show 0 ≤ weiTo cs ys k + _
      omega
  exact key _ (by have := l.ne; omega)
/-- proper digits -/
def Prop_ (cs ds : List Int) : Prop := ds.length = cs.length ∧ ∀ k, k + 1 < cs.length → 0 ≤ ds.getD k 0 ∧ ds.getD k 0 < rat cs k
theorem prop_lt {cs ds : List Int} (l : Lad cs) (p : Prop_ cs ds) : ∀ k, k < cs.length → 0 ≤ sumTo (fun j => cs.getD j 0 * ds.getD j 0) k ∧ sumTo (fun j => cs.getD j 0 * ds.getD j 0) k < cs.getD k 0
  | 0, h => ⟨Int.le_refl _, by rw [l.one]; show (0 : Int) < 1; decide⟩
  | k + 1, h => by
    obtain ⟨h1, h2, _⟩ := l.rat h
    obtain ⟨i1, i2⟩ := prop_lt l p k (by omega)
    obtain ⟨p1, p2⟩ := p.2 k h
    obtain ⟨_, c1, _⟩ := l.at (k := k) (by omega)
    have a1 : 0 ≤ cs.getD k 0 * ds.getD k 0 := Int.mul_nonneg (by omega) p1
    have a2 : cs.getD k 0 * ds.getD k 0 ≤ cs.getD k 0 * (rat cs k - 1) := Int.mul_le_mul_of_nonneg_left (by omega) (by omega)
    rw [Int.mul_sub] at a2
    show 0 ≤ sumTo _ k + cs.getD k 0 * ds.getD k 0 ∧ sumTo _ k + cs.getD k 0 * ds.getD k 0 < cs.getD (k + 1) 0
    rw [h1]
    omega
theorem dig_uniq {cs ds : List Int} (l : Lad cs) (p : Prop_ cs ds) : digitsOf cs (wor cs ds) = ds := by
  have key : ∀ m k, k + m = cs.length → digGo (cs.drop k) (wor cs ds) = (ds.drop k, sumTo (fun j => cs.getD j 0 * ds.getD j 0) k) := fun m => by
    induction m with
    | zero =>
      intro k hk
      rw [List.drop_of_length_le (by omega), List.drop_of_length_le (by rw [p.1]; omega)]
      show ([], wor cs ds) = _
      rw [show k = cs.length by omega]
      rfl
    | succ m ih =>
      intro k hk
      have hlt : k < cs.length := by omega
      have hd : cs.drop k = cs.getD k 0 :: cs.drop (k + 1) := by
        rw [List.drop_eq_getElem_cons hlt, List.getD_eq_getElem?_getD, List.getElem?_eq_getElem hlt]; rfl
      have hd2 : ds.drop k = ds.getD k 0 :: ds.drop (k + 1) := by
        rw [List.drop_eq_getElem_cons (by rw [p.1]; exact hlt), List.getD_eq_getElem?_getD, List.getElem?_eq_getElem (by rw [p.1]; exact hlt)]; rfl
      rw [hd, hd2]
      show ((digGo (cs.drop (k + 1)) (wor cs ds)).2 / cs.getD k 0 :: (digGo (cs.drop (k + 1)) (wor cs ds)).1, (digGo (cs.drop (k + 1)) (wor cs ds)).2 % cs.getD k 0) = _
      rw [ih (k + 1) (by omega)]
      obtain ⟨i1, i2⟩ := prop_lt l p k hlt
      show ((sumTo _ k + cs.getD k 0 * ds.getD k 0) / cs.getD k 0 :: _, (sumTo _ k + cs.getD k 0 * ds.getD k 0) % cs.getD k 0) = _
      obtain ⟨_, c1, _⟩ := l.at hlt
      rw [Int.add_mul_ediv_left _ _ (by omega), Int.ediv_eq_zero_of_lt i1 i2, Int.add_mul_emod_self_left, Int.emod_eq_of_lt i1 i2, Int.zero_add]
  have h := key cs.length 0 (Nat.zero_add _)
  rw [List.drop_zero] at h
  unfold digitsOf
  rw [h]
  rfl
theorem carF_prop {cs xs : List Int} (l : Lad cs) : Prop_ cs (carF cs xs) := ⟨carF_len cs xs, fun k h => by
  have h1 := (l.rat h).2.1
  unfold carF
  rw [rng_getD (by omega)]
  unfold fndN
  rw [if_pos h]
  exact ⟨Int.emod_nonneg _ (by omega), Int.emod_lt_of_pos _ (by omega)⟩⟩
/-- what is carried is the digits of what the counts come to -/
theorem carF_digits {cs xs : List Int} (l : Lad cs) : digitsOf cs (wor cs xs) = carF cs xs := by
  rw [← car_worth l]
  exact dig_uniq l (carF_prop l)
theorem car_same {cs xs : List Int} (l : Lad cs) (p : Prop_ cs xs) : carF cs xs = xs ∧ carC cs xs = List.replicate cs.length 0 := by
  have h0 : ∀ k, k < cs.length → hereN cs xs k = 0 := fun k => by
    induction k with
    | zero => intro _; rfl
    | succ k ih =>
      intro h
      obtain ⟨p1, p2⟩ := p.2 k h
      show (xs.getD k 0 + hereN cs xs k) / rat cs k = 0
      rw [ih (by omega), Int.add_zero, Int.ediv_eq_zero_of_lt p1 p2]
  constructor
  · rw [list_range xs 0, p.1]
    unfold carF
    refine List.map_congr_left fun k hk => ?_
    rw [List.mem_range] at hk
    have e : (List.map (fun j => xs.getD j 0) (List.range cs.length)) = xs := by rw [← p.1]; exact (list_range xs 0).symm
    rw [e]
    unfold fndN
    rw [h0 k hk, Int.add_zero]
    by_cases h : k + 1 < cs.length
    · rw [if_pos h, Int.emod_eq_of_lt (p.2 k h).1 (p.2 k h).2]
    · rw [if_neg h]
  · unfold carC
    rw [List.map_congr_left (g := fun _ => (0 : Int)) (fun k hk => h0 k (List.mem_range.mp hk)), List.map_const', List.length_range]
theorem dig_prop {cs : List Int} (l : Lad cs) {n : Int} (h0 : 0 ≤ n) : Prop_ cs (digitsOf cs n) ∧ wor cs (digitsOf cs n) = n := by
  have key : ∀ m k, k + m = cs.length → 0 ≤ (digGo (cs.drop k) n).2 ∧ (k = cs.length → (digGo (cs.drop k) n).2 = n) ∧ (k < cs.length → (digGo (cs.drop k) n).2 < cs.getD k 0) ∧
      sumTo (fun j => cs.getD (k + j) 0 * (digGo (cs.drop k) n).1.getD j 0) m + (digGo (cs.drop k) n).2 = n ∧
      ∀ j, k + j + 1 < cs.length → 0 ≤ (digGo (cs.drop k) n).1.getD j 0 ∧ (digGo (cs.drop k) n).1.getD j 0 < rat cs (k + j) := fun m => by
    induction m with
    | zero =>
      intro k hk
      rw [List.drop_of_length_le (by omega)]
      refine ⟨h0, fun _ => rfl, fun h => by omega, ?_, fun j h => by omega⟩
      show 0 + n = n
      omega
    | succ m ih =>
      intro k hk
      have hlt : k < cs.length := by omega
      obtain ⟨i0, i1, i2, i3, i4⟩ := ih (k + 1) (by omega)
      have hd : cs.drop k = cs.getD k 0 :: cs.drop (k + 1) := by
        rw [List.drop_eq_getElem_cons hlt, List.getD_eq_getElem?_getD, List.getElem?_eq_getElem hlt]; rfl
      obtain ⟨_, c1, _⟩ := l.at hlt
      rw [hd]
      generalize hg : digGo (cs.drop (k + 1)) n = g at *
      have e1 : (digGo (cs.getD k 0 :: cs.drop (k + 1)) n) = (g.2 / cs.getD k 0 :: g.1, g.2 % cs.getD k 0) := by
        show ((digGo (cs.drop (k + 1)) n).2 / _ :: (digGo (cs.drop (k + 1)) n).1, (digGo (cs.drop (k + 1)) n).2 % _) = _
        rw [hg]
      rw [e1]
      refine ⟨Int.emod_nonneg _ (by omega), fun h => by omega, fun _ => Int.emod_lt_of_pos _ (by omega), ?_, fun j h => ?_⟩
      · rw [sumTo_head]
        show cs.getD (k + 0) 0 * (g.2 / cs.getD k 0) + sumTo (fun t => cs.getD (k + (t + 1)) 0 * g.1.getD t 0) m + g.2 % cs.getD k 0 = n
        have e2 : sumTo (fun t => cs.getD (k + (t + 1)) 0 * g.1.getD t 0) m = sumTo (fun j => cs.getD (k + 1 + j) 0 * g.1.getD j 0) m := sumTo_congr _ fun t _ => by rw [show k + (t + 1) = k + 1 + t by omega]
        rw [e2, Nat.add_zero]
        have := Int.emod_add_mul_ediv g.2 (cs.getD k 0)
        omega
      · cases j with
        | zero =>
          show 0 ≤ g.2 / cs.getD k 0 ∧ g.2 / cs.getD k 0 < rat cs k
          have h2 := i2 (by omega)
          rw [(l.rat (k := k) (by omega)).1] at h2
          exact ⟨Int.ediv_nonneg i0 (by omega), Int.ediv_lt_of_lt_mul (by omega) (by rw [Int.mul_comm]; exact h2)⟩
        | succ j =>
          show 0 ≤ g.1.getD j 0 ∧ g.1.getD j 0 < rat cs (k + (j + 1))
          rw [show k + (j + 1) = k + 1 + j by omega]
          exact i4 j (by omega)
  obtain ⟨i0, i1, i2, i3, i4⟩ := key cs.length 0 (Nat.zero_add _)
  rw [List.drop_zero] at *
  refine ⟨⟨digitsOf_len cs n, fun k h => ?_⟩, ?_⟩
  · have := i4 k (by omega)
    rw [Nat.zero_add] at this
    exact this
  · have h2 := i2 (by have := l.ne; omega)
    rw [l.one] at h2
    have e : sumTo (fun j => cs.getD (0 + j) 0 * (digGo cs n).1.getD j 0) cs.length = wor cs (digitsOf cs n) := sumTo_congr _ fun t _ => by rw [Nat.zero_add]; rfl
    rw [e] at i3
    omega
theorem wor_add {cs xs ys : List Int} : wor cs ((List.range cs.length).map fun k => xs.getD k 0 + ys.getD k 0) = wor cs xs + wor cs ys := by
  unfold wor
  rw [← sumTo_add]
  refine sumTo_congr _ fun t ht => ?_
  rw [rng_getD ht, Int.mul_add]
end KK
end

section
set_option Elab.async false
set_option linter.all false
set_option maxRecDepth 100000
set_option maxHeartbeats 4000000
namespace KK
open PySem PySem.Spec PyProof.Rows L2 VL
abbrev s_digits : Stmt := topS 16
abbrev N_digits : List Str := ["coins", "number"]
theorem sc_digits : FnScope N_digits ["coins", "number"] (defScope s_digits) := ⟨rfl, rfl, rfl, by decide +kernel, rfl, by decide +kernel, by decide +kernel⟩
variable {P : Program} {w : World} {K : PySem.W.Frag} {mg : Str → Option Value} {base : Heap} {f aCoinError aBadNumber aBadPayment aBadCoins : Addr} {fd : FuncData}
def A_digits (ds : List D) (r : Res) : Prop := ∃ cs n, ds = [.tup (cs.map D.int), .int n] ∧ Lad cs ∧ cs.length ≤ 60 ∧ 0 ≤ n ∧ n ≤ c_MOST_COIN * c_MOST_COIN ∧ r = .ok (.tup ((digitsOf cs n).map D.int))
theorem ok_digits (F_check_ladder : FnV P w K mg base 3 "check_ladder" (detS (A_check_ladder aBadCoins))) (F_check_amount : FnV P w K mg base 3 "check_amount" (detS (A_check_amount aBadNumber))) (F_digits_of : FnV P w K mg base 1 "digits_of" (detS A_digits_of)) (Fu : Fun K "digits" "digits" s_digits f fd) (hb : Binds K fd ["coins", "number"] []) (hm : mg "digits" = some (.ref f)) : FnV P w K mg base 4 "digits" (detS A_digits) := by
  refine fn_pure (k := 3) Fu sc_digits hb hm (fun ds r ⟨d, n, e, _⟩ => by subst e; rfl) fun cdv A' outer s H E hr B ds r ⟨cs, n, e, hl, hl60, hn0, hn1, er⟩ => ?_
  subst e er
  refine css_exprR (r := .ok .non) (q_callD F_check_ladder (hr.mono (by decide)) (d_cons (c_var 0) d_nil) ⟨_, rfl, ?_, (lad_bad hl hl60 aBadCoins).symm⟩) (fun _ _ => ?_) (fun _ h => by cases h)
  · exact List.all_eq_true.mpr fun x hx => by
      obtain ⟨c, _, rfl⟩ := List.mem_map.mp hx
      rfl
  refine css_exprR (r := .ok .non) (q_callD F_check_amount (hr.mono (by decide)) (d_cons (c_var 1) d_nil) ⟨_, rfl, rfl, (if_pos (by simp [within, hn0, hn1])).symm⟩) (fun _ _ => ?_) (fun _ h => by cases h)
  refine css_ret (c_call F_digits_of (hr.mono (by decide)) (d_cons (c_var 0) (d_cons (c_var 1) d_nil)) (fun R h => ⟨_, _, rfl, ⟨cs, n, rfl, fun c hc => dv_of (hl.pos c hc), by omega, rfl⟩, h⟩)) rfl
end KK
end

section
set_option Elab.async false
set_option linter.all false
set_option maxRecDepth 100000
set_option maxHeartbeats 4000000
namespace KK
open PySem PySem.Spec PyProof.Rows L2 VL
abbrev s_check_digits : Stmt := topS 17
abbrev N_check_digits : List Str := ["coins", "counts", "count"]
theorem sc_check_digits : FnScope N_check_digits ["coins", "counts"] (defScope s_check_digits) := ⟨rfl, rfl, rfl, by decide +kernel, rfl, by decide +kernel, by decide +kernel⟩
variable {P : Program} {w : World} {K : PySem.W.Frag} {mg : Str → Option Value} {base : Heap} {f aCoinError aBadNumber aBadPayment aBadCoins : Addr} {fd : FuncData}
def smallQ (d : D) : Bool := match d with
  | .int i => decide (i ≤ c_MOST_COIN * c_MOST_COIN)
  | _ => false
def smallT (d : D) : Bool := match d with
  | .tup l => l.all smallQ
  | _ => false
def cntRes (C : Addr) (n : Nat) (d : D) : Res := if cntsOf d n && smallT d then .ok .non else .error ⟨C, []⟩
/-- counts that are right -/
def Cnts (n : Nat) (xs : List Int) : Prop := xs.length = n ∧ ∀ x ∈ xs, 0 ≤ x ∧ x ≤ c_MOST_COIN * c_MOST_COIN
theorem cnts_of {d : D} {n : Nat} (h : cntsOf d n = true) : ∃ xs : List Int, d = .tup (xs.map D.int) ∧ xs.length = n ∧ ∀ x ∈ xs, 0 ≤ x := by
  cases d with
  | tup l =>
    unfold cntsOf at h
    simp only [Bool.and_eq_true, decide_eq_true_eq] at h
    obtain ⟨h1, h2⟩ := h
    rw [List.all_eq_true] at h2
    have hall : l = (intsD l).map D.int := by
      unfold intsD
      rw [List.map_map]
      conv => lhs; rw [← List.map_id l]
      refine List.map_congr_left fun x hx => ?_
      have := h2 x hx
      cases x <;> first | rfl | cases this
    refine ⟨intsD l, by rw [← hall], by unfold intsD; rw [List.length_map]; omega, fun x hx => ?_⟩
    have h3 := h2 (.int x) (by rw [hall]; exact List.mem_map.mpr ⟨x, hx, rfl⟩)
    exact of_decide_eq_true h3
  | _ => cases h
theorem cntRes_ok {C : Addr} {n : Nat} {d r : D} (h : cntRes C n d = .ok r) : r = .non ∧ ∃ xs : List Int, d = .tup (xs.map D.int) ∧ Cnts n xs := by
  unfold cntRes at h
  split at h
  · rename_i hc
    cases h
    rw [Bool.and_eq_true] at hc
    obtain ⟨xs, rfl, h1, h2⟩ := cnts_of hc.1
    refine ⟨rfl, xs, rfl, h1, fun x hx => ⟨h2 x hx, ?_⟩⟩
    have h3 := List.all_eq_true.mp hc.2 (.int x) (List.mem_map.mpr ⟨x, hx, rfl⟩)
    exact of_decide_eq_true h3
  · cases h
theorem cntsOf_ints {xs : List Int} {n : Nat} (hn : xs.length = n) (h : ∀ x ∈ xs, 0 ≤ x) : cntsOf (.tup (xs.map D.int)) n = true := by
  unfold cntsOf
  simp only [Bool.and_eq_true, decide_eq_true_eq, List.length_map]
  refine ⟨by omega, ?_⟩
  rw [List.all_eq_true]
  intro d hd
  obtain ⟨x, hx, rfl⟩ := List.mem_map.mp hd
  exact decide_eq_true (h x hx)
theorem cntRes_of {C : Addr} {n : Nat} {xs : List Int} (h : Cnts n xs) : cntRes C n (.tup (xs.map D.int)) = .ok .non := by
  unfold cntRes
  rw [cntsOf_ints h.1 fun x hx => (h.2 x hx).1]
  have : (xs.map D.int).all smallQ = true := by
    rw [List.all_eq_true]
    intro d hd
    obtain ⟨x, hx, rfl⟩ := List.mem_map.mp hd
    exact decide_eq_true (h.2 x hx).2
  rw [show smallT (.tup (xs.map D.int)) = true from this]
  rfl
theorem plT2_ints {xs : List Int} (h : xs.length < 100000) : plT2 (.tup (xs.map D.int)) = true := by
  unfold plT2
  simp only [Bool.and_eq_true, decide_eq_true_eq, List.length_map]
  refine ⟨rfl, h, ?_⟩
  rw [List.all_eq_true]
  intro d hd
  obtain ⟨x, hx, rfl⟩ := List.mem_map.mp hd
  rfl
theorem mc2_mul : CMulW c_MOST_COIN c_MOST_COIN := by unfold CMulW c_MOST_COIN; decide +kernel
def A_check_digits (C : Addr) (ds : List D) (r : Res) : Prop := ∃ (cs : List Int) (d : D), ds = [.tup (cs.map D.int), d] ∧ plT2 d = true ∧ r = cntRes C cs.length d
theorem ok_check_digits (T : Blt mg) (E_BadPayment : EX0 P w K mg base "BadPayment" aBadPayment) (F_are_counts : FnV P w K mg base 2 "are_counts" (detS A_are_counts)) (Fu : Fun K "check_digits" "check_digits" s_check_digits f fd) (hb : Binds K fd ["coins", "counts"] []) (hm : mg "check_digits" = some (.ref f)) : FnV P w K mg base 3 "check_digits" (detS (A_check_digits aBadPayment)) := by
  refine fn_pure (k := 2) Fu sc_check_digits hb hm (fun ds r ⟨cs, d, e, _⟩ => by subst e; rfl) fun cdv A' outer s H E hr B ds r ⟨cs, d, e, hp, er⟩ => ?_
  subst e er
  have TB := E_BadPayment (cx P w K mg base N_check_digits "check_digits" s_check_digits f cdv A' outer s H E) rfl rfl rfl rfl rfl
  have el : (cs.map D.int).length = cs.length := List.length_map _
  cases hc : cntsOf d cs.length with
  | false =>
    refine css_if (k := true) (t_w (w_or (k := true) (l := false) (CT.eq (t_not (t_val (c_call F_are_counts (hr.mono (by decide)) (d_cons (c_var 1) (d_cons (c_lenT T.len (c_var 0)) d_nil)) (fun R h => ⟨_, _, rfl, ⟨_, _, rfl, hp, rfl⟩, h⟩)))) (by rw [el, hc]; rfl)) (fun h => Bool.noConfusion h))) (fun _ => ?_) (fun h => Bool.noConfusion h)
    refine css_raise0 B TB ?_
    show cntRes aBadPayment cs.length d = _
    unfold cntRes
    rw [hc]
    rfl
  | true =>
    obtain ⟨xs, rfl, h1, h2⟩ := cnts_of hc
    have hl : xs.length < 100000 := by
      unfold plT2 at hp
      simp only [Bool.and_eq_true, decide_eq_true_eq, List.length_map] at hp
      exact hp.2.1
    refine css_if (t_w (w_or (t_not (t_val (c_call F_are_counts (hr.mono (by decide)) (d_cons (c_var 1) (d_cons (c_lenT T.len (c_var 0)) d_nil)) (fun R h => ⟨_, _, rfl, ⟨_, _, rfl, hp, rfl⟩, h⟩)))) (fun _ => w_or1 (t_val (c_anyL B.calm T.any (bs := xs.map fun x => decide (c_MOST_COIN * c_MOST_COIN < x)) (CE.eq (CN.ce (n_lc0 (T := .nm 2) (fun d => .bl (!smallQ d)) (ci_tup (c_var 1)) [("count", 2)] B (blkOk_by (N := N_check_digits) (sc := defScope s_check_digits) (by decide +kernel)) (fun _ _ _ _ _ => tg_nm 2 B.nd) (by decide) (fun k p ds hk h => by rcases k with _ | _ | _ | k <;> cases h) (fun i d hd => ?_) (szl (by rw [List.length_map]; exact hl)))) ?_)))))) (fun hq => ?_) (fun hq => ?_)
    · obtain ⟨x, hx, rfl⟩ := List.mem_map.mp (List.mem_of_getElem? hd)
      refine ⟨_, .nm, (fun k p es h => by rcases k with _ | _ | _ | k <;> cases h), fun _ _ _ _ _ => CE.eq (c_gt (c_var 2) (c_mulW (c_gint T.MOST_COIN) (c_gint T.MOST_COIN) mc2_mul)) ?_⟩
      show D.bl (decide (c_MOST_COIN * c_MOST_COIN < x)) = D.bl (!decide (x ≤ c_MOST_COIN * c_MOST_COIN))
      congr 1
      rw [← decide_not]
      exact decide_eq_decide.mpr (by omega)
    · rw [List.map_map, List.map_map]
      congr 1
      refine List.map_congr_left fun x _ => ?_
      show D.bl (!decide (x ≤ c_MOST_COIN * c_MOST_COIN)) = D.bl (decide (c_MOST_COIN * c_MOST_COIN < x))
      congr 1
      rw [← decide_not]
      exact decide_eq_decide.mpr (by omega)
    · refine css_raise0 B TB ?_
      show cntRes aBadPayment cs.length (.tup (xs.map D.int)) = _
      rw [el, hc, Bool.not_true, Bool.false_or, List.any_map, List.any_eq_true] at hq
      obtain ⟨x, hx, hxx⟩ := hq
      have hxx : c_MOST_COIN * c_MOST_COIN < x := of_decide_eq_true hxx
      have : (xs.map D.int).all smallQ = false := by
        rw [List.all_eq_false]
        exact ⟨.int x, List.mem_map.mpr ⟨x, hx, rfl⟩, fun h => by
          have := of_decide_eq_true (show decide (x ≤ c_MOST_COIN * c_MOST_COIN) = true from h)
          omega⟩
      unfold cntRes
      rw [show smallT (.tup (xs.map D.int)) = false from this, Bool.and_false]
      rfl
    · refine css_nil (css_nil ?_)
      show cntRes aBadPayment cs.length (.tup (xs.map D.int)) = _
      rw [el, hc, Bool.not_true, Bool.false_or, List.any_map, List.any_eq_false] at hq
      exact cntRes_of ⟨h1, fun x hx => ⟨h2 x hx, by
        have h3 : ¬ decide (c_MOST_COIN * c_MOST_COIN < x) = true := hq x hx
        rw [decide_eq_true_eq] at h3
        omega⟩⟩
end KK
end

section
set_option Elab.async false
set_option linter.all false
set_option maxRecDepth 100000
set_option maxHeartbeats 4000000
namespace KK
open PySem PySem.Spec PyProof.Rows L2 VL
abbrev s_amount_of : Stmt := topS 18
abbrev N_amount_of : List Str := ["coins", "counts", "count", "coin"]
theorem sc_amount_of : FnScope N_amount_of ["coins", "counts"] (defScope s_amount_of) := ⟨rfl, rfl, rfl, by decide +kernel, rfl, by decide +kernel, by decide +kernel⟩
variable {P : Program} {w : World} {K : PySem.W.Frag} {mg : Str → Option Value} {base : Heap} {f aCoinError aBadNumber aBadPayment aBadCoins : Addr} {fd : FuncData}
def A_amount_of (ds : List D) (r : Res) : Prop := ∃ (cs xs : List Int), ds = [.tup (cs.map D.int), .tup (xs.map D.int)] ∧ xs.length = cs.length ∧ cs.length ≤ 60 ∧ (∀ c ∈ cs, Lt2 1000 c) ∧ (∀ x ∈ xs, Lt2 10000 x) ∧ r = .ok (.int (wor cs xs))
theorem ok_amount_of (T : Blt mg) (Fu : Fun K "amount_of" "amount_of" s_amount_of f fd) (hb : Binds K fd ["coins", "counts"] []) (hm : mg "amount_of" = some (.ref f)) : FnV P w K mg base 1 "amount_of" (detS A_amount_of) := by
  refine fn_pure (k := 0) Fu sc_amount_of hb hm (fun ds r ⟨cs, d, e, _⟩ => by subst e; rfl) fun cdv A' outer s H E hr B ds r ⟨cs, xs, e, hl, h60, hc, hx, er⟩ => ?_
  subst e er
  refine css_ret (c_sumL B.calm T.sum (ns := (List.range xs.length).map fun k => cs.getD k 0 * xs.getD k 0) (CE.eq (CN.ce (n_lc0 (T := .tp [.nm 2, .nm 3]) (fun d => match d with | .tup [.int x, .int c] => .int (c * x) | _ => .non) (ci_zipT T.zip (c_var 1) (c_var 0)) [("count", 2), ("coin", 3)] B (blkOk_by (N := N_amount_of) (sc := defScope s_amount_of) (by decide +kernel))
      (fun _ _ _ _ _ => tg_tp rfl (tgs_cons (tg_nm 2 B.nd) (tgs_cons (tg_nm 3 B.nd) tgs_nil))) (by decide) (fun k p ds hk h => by rcases k with _ | _ | _ | _ | k <;> cases h) (fun i d hd => ?_) ?_)) ?_)) ?_
  · obtain ⟨x, y, h1, h2, rfl⟩ := zipD_inv hd
    obtain ⟨u, hu, rfl⟩ := List.mem_map.mp (List.mem_of_getElem? h1)
    obtain ⟨v, hv, rfl⟩ := List.mem_map.mp (List.mem_of_getElem? h2)
    exact ⟨_, .tp (.cons .nm (.cons .nm .nil)), (fun k p es h => by rcases k with _ | _ | _ | _ | k <;> cases h), fun _ _ _ _ _ => CE.eq (c_mulW (c_var 2) (c_var 3) (mulW_of (hx u hu) (hc v hv) (by decide))) (congrArg D.int (Int.mul_comm u v))⟩
  · rw [zipD_len, List.length_map, List.length_map]; exact szl (by omega)
  · rw [zipD_ints hl.symm, List.map_map, List.map_map]
    rfl
  · show Except.ok (D.int (wor cs xs)) = _
    rw [sum_sumTo, hl]
    rfl
end KK
end

section
set_option Elab.async false
set_option linter.all false
set_option maxRecDepth 100000
set_option maxHeartbeats 4000000
namespace KK
open PySem PySem.Spec PyProof.Rows L2 VL
abbrev s_carried : Stmt := topS 21
abbrev N_carried : List Str := ["coins", "counts", "found", "carries", "here", "at", "count", "total", "ratio"]
theorem sc_carried : FnScope N_carried ["coins", "counts"] (defScope s_carried) := ⟨rfl, rfl, rfl, by decide +kernel, rfl, by decide +kernel, by decide +kernel⟩
variable {P : Program} {w : World} {K : PySem.W.Frag} {mg : Str → Option Value} {base : Heap} {f aCoinError aBadNumber aBadPayment aBadCoins : Addr} {fd : FuncData}
def lenT (d : D) : Nat := match d with
  | .tup l => l.length
  | _ => 0
def intsT (d : D) : List Int := match d with
  | .tup l => intsD l
  | _ => []
theorem lenT_ints (cs : List Int) : lenT (.tup (cs.map D.int)) = cs.length := List.length_map _
theorem intsT_ints (cs : List Int) : intsT (.tup (cs.map D.int)) = cs := intsD_map cs
def pairT (a b : List Int) : D := .tup [.tup (a.map D.int), .tup (b.map D.int)]
/-- coins and counts are looked at -/
def ccRes (aC aP : Addr) (d1 d2 : D) (v : D) : Res := match ladRes aC d1 with
  | .error e => .error e
  | .ok _ => match cntRes aP (lenT d1) d2 with
    | .error e => .error e
    | .ok _ => .ok v
theorem ladRes_non {C : Addr} {d u : D} (h : ladRes C d = .ok u) : u = .non := by
  unfold ladRes at h
  cases d with
  | tup l =>
    by_cases hl : 1 ≤ l.length ∧ l.length ≤ 60
    · simp only [if_pos hl] at h
      cases q : ladBad l with
      | none => rw [q] at h; cases h; rfl
      | some j => rw [q] at h; cases h
    · simp only [if_neg hl] at h
      cases h
  | _ => cases h
theorem lt_M2 {x : Int} (h0 : 0 ≤ x) (h : x ≤ c_MOST_COIN * c_MOST_COIN) : Lt2 700 x := by
  have : (c_MOST_COIN * c_MOST_COIN).natAbs < 2 ^ 700 := by unfold c_MOST_COIN; decide +kernel
  unfold Lt2
  omega
theorem here_le {cs xs : List Int} {M : Int} (l : Lad cs) (hM : 0 ≤ M) (hx : ∀ x ∈ xs, 0 ≤ x ∧ x ≤ M) : ∀ k, k < cs.length → 0 ≤ hereN cs xs k ∧ hereN cs xs k ≤ M
  | 0, _ => ⟨Int.le_refl _, hM⟩
  | k + 1, h => by
    have h1 := (l.rat h).2.1
    obtain ⟨i1, i2⟩ := here_le l hM hx k (by omega)
    have h3 : 0 ≤ xs.getD k 0 ∧ xs.getD k 0 ≤ M := by
      rw [List.getD_eq_getElem?_getD]
      cases q : xs[k]? with
      | none => exact ⟨Int.le_refl _, hM⟩
      | some x => exact hx x (List.mem_of_getElem? q)
    refine ⟨Int.ediv_nonneg (by omega) (by omega), ?_⟩
    show (xs.getD k 0 + hereN cs xs k) / rat cs k ≤ M
    have e1 : (xs.getD k 0 + hereN cs xs k) / rat cs k ≤ (xs.getD k 0 + hereN cs xs k) / 2 := by
      have q0 : 0 ≤ (xs.getD k 0 + hereN cs xs k) / rat cs k := Int.ediv_nonneg (by omega) (by omega)
      have e := Int.emod_add_mul_ediv (xs.getD k 0 + hereN cs xs k) (rat cs k)
      have m0 := Int.emod_nonneg (xs.getD k 0 + hereN cs xs k) (show rat cs k ≠ 0 by omega)
      have e2 : 2 * ((xs.getD k 0 + hereN cs xs k) / rat cs k) ≤ rat cs k * ((xs.getD k 0 + hereN cs xs k) / rat cs k) := Int.mul_le_mul_of_nonneg_right h1 q0
      omega
    omega
def A_carried (aC aP : Addr) (ds : List D) (r : Res) : Prop := ∃ d1 d2, ds = [d1, d2] ∧ plT d1 = true ∧ plT2 d2 = true ∧ r = ccRes aC aP d1 d2 (pairT (carF (intsT d1) (intsT d2)) (carC (intsT d1) (intsT d2)))
theorem ok_carried (T : Blt mg) (F_check_ladder : FnV P w K mg base 3 "check_ladder" (detS (A_check_ladder aBadCoins))) (F_check_digits : FnV P w K mg base 3 "check_digits" (detS (A_check_digits aBadPayment))) (Fu : Fun K "carried" "carried" s_carried f fd) (hb : Binds K fd ["coins", "counts"] []) (hm : mg "carried" = some (.ref f)) : FnV P w K mg base 4 "carried" (detS (A_carried aBadCoins aBadPayment)) := by
  refine fn_pure (k := 3) Fu sc_carried hb hm (fun ds r ⟨d, n, e, _⟩ => by subst e; rfl) fun cdv A' outer s H E hr B ds r ⟨d1, d2, e, h1, h2, er⟩ => ?_
  subst e er
  refine css_exprR (q_callD F_check_ladder (hr.mono (by decide)) (d_cons (c_var 0) d_nil) ⟨_, rfl, h1, rfl⟩) (fun u hlr => ?_) (fun er hlr => ?_)
  · have hu := ladRes_non hlr
    subst hu
    obtain ⟨cs, rfl, lad, hl60⟩ := lad_of hlr
    have el : (cs.map D.int).length = cs.length := List.length_map _
    refine css_exprR (q_callD F_check_digits (hr.mono (by decide)) (d_cons (c_var 0) (d_cons (c_var 1) d_nil)) ⟨_, _, rfl, h2, rfl⟩) (fun u hcr => ?_) (fun er hcr => ?_)
    · obtain ⟨hu, xs, rfl, hx⟩ := cntRes_ok hcr
      subst hu
      have hcc : ∀ v, ccRes aBadCoins aBadPayment (.tup (cs.map D.int)) (.tup (xs.map D.int)) v = .ok v := fun v => by
        unfold ccRes
        rw [hlr, lenT_ints]
        simp only [hcr]
      rw [hcc, intsT_ints, intsT_ints]
      have hn := lad.ne
      have el2 : (xs.map D.int).length = xs.length := List.length_map _
      have hxl := hx.1
      have hM : (0 : Int) ≤ c_MOST_COIN * c_MOST_COIN := by unfold c_MOST_COIN; decide +kernel
      refine css_par3L 2 3 4 B (n_lst d_nil (sz (by simp))) lit1 (fun q p => ?_)
      refine css_for (T := .tp [.nm 5, .nm 6]) B (ci_enumT T.enumerate (c_var 1)) (tg_tp rfl (tgs_cons (tg_nm 5 B.nd) (tgs_cons (tg_nm 6 B.nd) tgs_nil)))
        (fun i ρ => i ≤ cs.length ∧ ∃ a b c d, ρ = [.dat (.tup (cs.map D.int)), .dat (.tup (xs.map D.int)), .mut q (((List.range i).map (fndN cs xs)).map D.int), .mut p (((List.range (min (i + 1) cs.length)).map (hereN cs xs)).map D.int), .dat (.int (hereN cs xs (min i (cs.length - 1)))), a, b, c, d])
        ⟨Nat.zero_le _, _, _, _, _, by rw [show min (0 + 1) cs.length = 1 by omega, show min 0 (cs.length - 1) = 0 by omega]; rfl⟩ (fun i d ρ hd hJ => ?_) (fun ρ hJ => ?_)
      · obtain ⟨x, hxi, rfl⟩ := enumD_inv hd
        obtain ⟨_, a, b, c, d, rfl⟩ := hJ
        have hi : i < cs.length := by
          have := (List.getElem?_eq_some_iff.mp hxi).1
          omega
        rw [at_ints (at_getD (by omega : i < xs.length))] at hxi
        cases hxi
        have emin : min i (cs.length - 1) = i := by omega
        rw [emin]
        obtain ⟨hh0, hh1⟩ := here_le lad hM hx.2 i hi
        have hxi2 := hx.2 _ (List.mem_of_getElem? (at_getD (by omega : i < xs.length)))
        refine ⟨_, .tp (.cons .nm (.cons .nm .nil)), ?_⟩
        refine css_asg 7 B (c_add (c_var 6) (c_var 4)) ?_
        refine css_if (t_eqI (c_var 5) (c_sub (c_lenT T.len (c_var 0)) c_int)) (fun hc => ?_) (fun hc => ?_)
        · have hc : i + 1 = cs.length := by rw [el] at hc; have := of_decide_eq_true hc; omega
          refine css_append 2 (c_var 7) rfl rfl (szl (by rw [List.length_map, List.length_map, List.length_range]; omega)) ?_
          refine css_nil (css_nil ⟨hi, .dat (.int (i : Nat)), .dat (.int (xs.getD i 0)), .dat (.int (xs.getD i 0 + hereN cs xs i)), d, ?_⟩)
          have ef : fndN cs xs i = xs.getD i 0 + hereN cs xs i := by unfold fndN; rw [if_neg (by omega)]
          rw [show min (i + 1) cs.length = min (i + 1 + 1) cs.length by omega, show min (i + 1) (cs.length - 1) = i by omega, map_succ, ef]
          rfl
        · have hc : i + 1 < cs.length := by rw [el] at hc; have := of_decide_eq_false hc; omega
          have a1 : atI (cs.map D.int) ((i : Nat) + 1 : Int) = some (.int (cs.getD (i + 1) 0)) := atI_i (k := i + 1) (by omega) (at_ints (lad.at hc).1)
          have a2 : atI (cs.map D.int) ((i : Nat) : Int) = some (.int (cs.getD i 0)) := atI_i (k := i) rfl (at_ints (lad.at hi).1)
          obtain ⟨_, r2, r3⟩ := lad.rat hc
          refine css_asg 8 B (d := .int (rat cs i)) (c_divW (c_ixT (c_var 0) (c_add (c_var 5) c_int) a1) (c_ixT (c_var 0) (c_var 5) a2) (dv_of (lad.at hi).2)) ?_
          refine css_append 2 (c_mod (c_var 7) (c_var 8) (by omega)) rfl rfl (szl (by rw [List.length_map, List.length_map, List.length_range]; omega)) ?_
          refine css_asg 4 B (c_divW (c_var 7) (c_var 8) (dv_of ⟨by omega, r3⟩)) ?_
          refine css_append 3 (c_var 4) rfl rfl (szl (by rw [List.length_map, List.length_map, List.length_range]; omega)) ?_
          refine css_nil (css_nil ⟨hi, .dat (.int (i : Nat)), .dat (.int (xs.getD i 0)), .dat (.int (xs.getD i 0 + hereN cs xs i)), .dat (.int (rat cs i)), ?_⟩)
          have ef : fndN cs xs i = (xs.getD i 0 + hereN cs xs i) % rat cs i := by unfold fndN; rw [if_pos hc]
          rw [show min (i + 1) cs.length = i + 1 by omega, show min (i + 1 + 1) cs.length = i + 1 + 1 by omega, show min (i + 1) (cs.length - 1) = i + 1 by omega, map_succ (hereN cs xs) D.int (i + 1), map_succ (fndN cs xs) D.int i, ef]
          rfl
      · obtain ⟨_, a, b, c, d, rfl⟩ := hJ
        rw [enumD_len, el2, hxl, show min (cs.length + 1) cs.length = cs.length by omega]
        refine css_ret (c_tup (d_cons (c_bor (im_tup _) (c_tupL T.tuple (c_var 2))) (d_cons (c_bor (im_tup _) (c_tupL T.tuple (c_var 3))) d_nil)) (sz (by simp))) rfl
    · show ccRes aBadCoins aBadPayment (.tup (cs.map D.int)) d2 _ = _
      unfold ccRes
      rw [hlr, lenT_ints]
      simp only [hcr]
  · show ccRes aBadCoins aBadPayment d1 d2 _ = _
    unfold ccRes
    rw [hlr]
end KK
end

section
set_option Elab.async false
set_option linter.all false
set_option maxRecDepth 100000
set_option maxHeartbeats 4000000
namespace KK
open PySem PySem.Spec PyProof.Rows L2 VL
abbrev s_amount : Stmt := topS 19
abbrev N_amount : List Str := ["coins", "counts"]
theorem sc_amount : FnScope N_amount ["coins", "counts"] (defScope s_amount) := ⟨rfl, rfl, rfl, by decide +kernel, rfl, by decide +kernel, by decide +kernel⟩
variable {P : Program} {w : World} {K : PySem.W.Frag} {mg : Str → Option Value} {base : Heap} {f aCoinError aBadNumber aBadPayment aBadCoins : Addr} {fd : FuncData}
def A_amount (ds : List D) (r : Res) : Prop := ∃ cs xs : List Int, ds = [.tup (cs.map D.int), .tup (xs.map D.int)] ∧ Lad cs ∧ cs.length ≤ 60 ∧ Cnts cs.length xs ∧ r = .ok (.int (wor cs xs))
theorem lt_coin {c : Int} (h : 1 ≤ c ∧ c ≤ c_MOST_COIN) : Lt2 333 c := Nat.lt_of_le_of_lt (by omega) mc_bits
theorem ok_amount (F_check_ladder : FnV P w K mg base 3 "check_ladder" (detS (A_check_ladder aBadCoins))) (F_check_digits : FnV P w K mg base 3 "check_digits" (detS (A_check_digits aBadPayment))) (F_amount_of : FnV P w K mg base 1 "amount_of" (detS A_amount_of)) (Fu : Fun K "amount" "amount" s_amount f fd) (hb : Binds K fd ["coins", "counts"] []) (hm : mg "amount" = some (.ref f)) : FnV P w K mg base 4 "amount" (detS A_amount) := by
  refine fn_pure (k := 3) Fu sc_amount hb hm (fun ds r ⟨d, n, e, _⟩ => by subst e; rfl) fun cdv A' outer s H E hr B ds r ⟨cs, xs, e, hl, hl60, hx, er⟩ => ?_
  subst e er
  refine css_exprR (r := .ok .non) (q_callD F_check_ladder (hr.mono (by decide)) (d_cons (c_var 0) d_nil) ⟨_, rfl, plT_ints cs, (lad_bad hl hl60 aBadCoins).symm⟩) (fun _ _ => ?_) (fun _ h => by cases h)
  refine css_exprR (r := .ok .non) (q_callD F_check_digits (hr.mono (by decide)) (d_cons (c_var 0) (d_cons (c_var 1) d_nil)) ⟨cs, _, rfl, plT2_ints (by have := hx.1; omega), (cntRes_of hx).symm⟩) (fun _ _ => ?_) (fun _ h => by cases h)
  exact css_ret (c_call F_amount_of (hr.mono (by decide)) (d_cons (c_var 0) (d_cons (c_var 1) d_nil)) (fun R h => ⟨_, _, rfl, ⟨cs, xs, rfl, hx.1, by omega, fun c hc => (lt_coin (hl.pos c hc)).mono (by decide), fun x h => (lt_M2 (hx.2 x h).1 (hx.2 x h).2).mono (by decide), rfl⟩, h⟩)) rfl
end KK
end

section
set_option Elab.async false
set_option linter.all false
set_option maxRecDepth 100000
set_option maxHeartbeats 4000000
namespace KK
open PySem PySem.Spec PyProof.Rows L2 VL
abbrev s_is_digits : Stmt := topS 20
abbrev N_is_digits : List Str := ["coins", "thing", "count", "coin", "other"]
theorem sc_is_digits : FnScope N_is_digits ["coins", "thing"] (defScope s_is_digits) := ⟨rfl, rfl, rfl, by decide +kernel, rfl, by decide +kernel, by decide +kernel⟩
variable {P : Program} {w : World} {K : PySem.W.Frag} {mg : Str → Option Value} {base : Heap} {f aCoinError aBadNumber aBadPayment aBadCoins : Addr} {fd : FuncData}
/-- each count but the last below the next ratio -/
def digQ (cs xs : List Int) : Bool := (List.range (cs.length - 1)).all fun k => decide (xs.getD k 0 * cs.getD k 0 < cs.getD (k + 1) 0)
theorem digQ_prop {cs xs : List Int} (l : Lad cs) (hx : Cnts cs.length xs) (h : digQ cs xs = true) : Prop_ cs xs := by
  unfold digQ at h
  rw [List.all_eq_true] at h
  refine ⟨hx.1, fun k hk => ?_⟩
  have h1 := of_decide_eq_true (h k (List.mem_range.mpr (by omega)))
  obtain ⟨e, r1, _⟩ := l.rat hk
  obtain ⟨_, c1, _⟩ := l.at (k := k) (by omega)
  have h2 := hx.2 _ (List.mem_of_getElem? (at_getD (by rw [hx.1]; omega : k < xs.length)))
  refine ⟨h2.1, ?_⟩
  rw [e, Int.mul_comm (xs.getD k 0)] at h1
  exact Int.lt_of_mul_lt_mul_left h1 (by omega)
def A_is_digits (ds : List D) (r : Res) : Prop := ∃ cs xs : List Int, ds = [.tup (cs.map D.int), .tup (xs.map D.int)] ∧ Lad cs ∧ cs.length ≤ 60 ∧ Cnts cs.length xs ∧ r = .ok (.bl (digQ cs xs))
theorem ok_is_digits (T : Blt mg) (F_check_ladder : FnV P w K mg base 3 "check_ladder" (detS (A_check_ladder aBadCoins))) (F_are_counts : FnV P w K mg base 2 "are_counts" (detS A_are_counts)) (Fu : Fun K "is_digits" "is_digits" s_is_digits f fd) (hb : Binds K fd ["coins", "thing"] []) (hm : mg "is_digits" = some (.ref f)) : FnV P w K mg base 4 "is_digits" (detS A_is_digits) := by
  refine fn_pure (k := 3) Fu sc_is_digits hb hm (fun ds r ⟨d, n, e, _⟩ => by subst e; rfl) fun cdv A' outer s H E hr B ds r ⟨cs, xs, e, hl, hl60, hx, er⟩ => ?_
  subst e er
  have el : (cs.map D.int).length = cs.length := List.length_map _
  have hn := hl.ne
  refine css_exprR (r := .ok .non) (q_callD F_check_ladder (hr.mono (by decide)) (d_cons (c_var 0) d_nil) ⟨_, rfl, plT_ints cs, (lad_bad hl hl60 aBadCoins).symm⟩) (fun _ _ => ?_) (fun _ h => by cases h)
  refine css_if (k := false) (CT.eq (t_not (t_val (c_call F_are_counts (hr.mono (by decide)) (d_cons (c_var 1) (d_cons (c_lenT T.len (c_var 0)) d_nil)) (fun R h => ⟨_, _, rfl, ⟨_, _, rfl, plT2_ints (by have := hx.1; omega), rfl⟩, h⟩)))) (by rw [el, cntsOf_ints hx.1 fun x h => (hx.2 x h).1]; rfl)) (fun h => Bool.noConfusion h) (fun _ => css_nil ?_)
  have et : cutD (cs.map D.int) (some 1) none = (cs.drop 1).map D.int := by rw [show (1 : Int) = ((1 : Nat) : Int) from rfl, cutD_drop, List.map_drop]
  have hlen : (zip3D (xs.map D.int) (cs.map D.int) ((cs.drop 1).map D.int)).length = cs.length - 1 := by
    rw [zip3D_len, List.length_map, List.length_map, List.length_map, List.length_drop, hx.1]
    omega
  refine css_ret (c_allL B.calm T.all (bs := (List.range (cs.length - 1)).map fun k => decide (xs.getD k 0 * cs.getD k 0 < cs.getD (k + 1) 0)) (CE.eq (CN.ce (n_lc0 (T := .tp [.nm 2, .nm 3, .nm 4]) (fun d => match d with | .tup [.int x, .int c, .int o] => .bl (decide (x * c < o)) | _ => .non) (ci_zip3T T.zip (c_var 1) (c_var 0) (CE.eq (c_slT (c_var 0) (o_some c_int) o_none) (congrArg D.tup et))) [("count", 2), ("coin", 3), ("other", 4)] B (blkOk_by (N := N_is_digits) (sc := defScope s_is_digits) (by decide +kernel))
      (fun _ _ _ _ _ => tg_tp rfl (tgs_cons (tg_nm 2 B.nd) (tgs_cons (tg_nm 3 B.nd) (tgs_cons (tg_nm 4 B.nd) tgs_nil)))) (by decide) (fun k p ds hk h => by rcases k with _ | _ | _ | _ | _ | k <;> cases h) (fun i d hd => ?_) ?_)) ?_)) ?_
  · obtain ⟨x, y, z, h1, h2, h3, rfl⟩ := zip3D_inv hd
    obtain ⟨u, hu, rfl⟩ := List.mem_map.mp (List.mem_of_getElem? h1)
    obtain ⟨v, hv, rfl⟩ := List.mem_map.mp (List.mem_of_getElem? h2)
    obtain ⟨o, ho, rfl⟩ := List.mem_map.mp (List.mem_of_getElem? h3)
    exact ⟨_, .tp (.cons .nm (.cons .nm (.cons .nm .nil))), (fun k p es h => by rcases k with _ | _ | _ | _ | _ | k <;> cases h), fun _ _ _ _ _ => c_lt (c_mulW (c_var 2) (c_var 3) (mulW_of (lt_M2 (hx.2 u hu).1 (hx.2 u hu).2) (lt_coin (hl.pos v hv)) (by decide))) (c_var 4)⟩
  · rw [hlen]; exact szl (by omega)
  · congr 1
    apply List.ext_getElem?
    intro k
    rw [List.map_map]
    by_cases hk : k < cs.length - 1
    · rw [rng_get hk, List.getElem?_map]
      have hx1 := hx.1
      rw [zip3D_get (at_ints (at_getD (by omega : k < xs.length))) (at_ints (at_getD (by omega : k < cs.length))) (at_ints (n := cs.getD (k + 1) 0) (by rw [List.getElem?_drop, Nat.add_comm 1 k]; exact at_getD (by omega)))]
      rfl
    · rw [List.getElem?_eq_none (by rw [List.length_map, hlen]; omega), List.getElem?_eq_none (by rw [List.length_map, List.length_range]; omega)]
  · show Except.ok (D.bl (digQ cs xs)) = _
    unfold digQ
    rw [List.all_map]; rfl
end KK
end

section
set_option Elab.async false
set_option linter.all false
set_option maxRecDepth 100000
set_option maxHeartbeats 4000000
namespace KK
open PySem PySem.Spec PyProof.Rows L2 VL
abbrev s_sum_digits : Stmt := topS 22
abbrev N_sum_digits : List Str := ["coins", "one", "other"]
theorem sc_sum_digits : FnScope N_sum_digits ["coins", "one", "other"] (defScope s_sum_digits) := ⟨rfl, rfl, rfl, by decide +kernel, rfl, by decide +kernel, by decide +kernel⟩
variable {P : Program} {w : World} {K : PySem.W.Frag} {mg : Str → Option Value} {base : Heap} {f aCoinError aBadNumber aBadPayment aBadCoins : Addr} {fd : FuncData}
/-- both payments together, digit by digit -/
def sumXs (cs xs ys : List Int) : List Int := (List.range cs.length).map fun k => xs.getD k 0 + ys.getD k 0
def sdRes (aC aP : Addr) (d1 d2 d3 : D) : Res := match ladRes aC d1 with
  | .error e => .error e
  | .ok _ => match cntRes aP (lenT d1) d2 with
    | .error e => .error e
    | .ok _ => match cntRes aP (lenT d1) d3 with
      | .error e => .error e
      | .ok _ => .ok (.tup ((carF (intsT d1) (sumXs (intsT d1) (intsT d2) (intsT d3))).map D.int))
def A_sum_digits (aC aP : Addr) (ds : List D) (r : Res) : Prop := ∃ d1 d2 d3, ds = [d1, d2, d3] ∧ plT d1 = true ∧ plT2 d2 = true ∧ plT2 d3 = true ∧ r = sdRes aC aP d1 d2 d3
theorem ok_sum_digits (T : Blt mg) (F_check_ladder : FnV P w K mg base 3 "check_ladder" (detS (A_check_ladder aBadCoins))) (F_check_digits : FnV P w K mg base 3 "check_digits" (detS (A_check_digits aBadPayment))) (F_amount_of : FnV P w K mg base 1 "amount_of" (detS A_amount_of)) (F_digits_of : FnV P w K mg base 1 "digits_of" (detS A_digits_of)) (Fu : Fun K "sum_digits" "sum_digits" s_sum_digits f fd) (hb : Binds K fd ["coins", "one", "other"] []) (hm : mg "sum_digits" = some (.ref f)) : FnV P w K mg base 4 "sum_digits" (detS (A_sum_digits aBadCoins aBadPayment)) := by
  refine fn_pure (k := 3) Fu sc_sum_digits hb hm (fun ds r ⟨d, n, m, e, _⟩ => by subst e; rfl) fun cdv A' outer s H E hr B ds r ⟨d1, d2, d3, e, h1, h2, h3, er⟩ => ?_
  subst e er
  refine css_exprR (q_callD F_check_ladder (hr.mono (by decide)) (d_cons (c_var 0) d_nil) ⟨_, rfl, h1, rfl⟩) (fun u hlr => ?_) (fun er hlr => ?_)
  · have hu := ladRes_non hlr
    subst hu
    obtain ⟨cs, rfl, lad, hl60⟩ := lad_of hlr
    refine css_exprR (q_callD F_check_digits (hr.mono (by decide)) (d_cons (c_var 0) (d_cons (c_var 1) d_nil)) ⟨_, _, rfl, h2, rfl⟩) (fun u hcr => ?_) (fun er hcr => ?_)
    · obtain ⟨hu, xs, rfl, hx⟩ := cntRes_ok hcr
      subst hu
      refine css_exprR (q_callD F_check_digits (hr.mono (by decide)) (d_cons (c_var 0) (d_cons (c_var 2) d_nil)) ⟨_, _, rfl, h3, rfl⟩) (fun u hcr2 => ?_) (fun er hcr2 => ?_)
      · obtain ⟨hu, ys, rfl, hy⟩ := cntRes_ok hcr2
        subst hu
        have hcc : sdRes aBadCoins aBadPayment (.tup (cs.map D.int)) (.tup (xs.map D.int)) (.tup (ys.map D.int)) = .ok (.tup ((carF cs (sumXs cs xs ys)).map D.int)) := by
          unfold sdRes
          rw [hlr, lenT_ints]
          simp only [hcr, hcr2, intsT_ints]
        rw [hcc]
        have am : ∀ zs, Cnts cs.length zs → A_amount_of [.tup (cs.map D.int), .tup (zs.map D.int)] (.ok (.int (wor cs zs))) := fun zs hz => ⟨cs, zs, rfl, hz.1, by omega, fun c hc => (lt_coin (lad.pos c hc)).mono (by decide), fun x h => (lt_M2 (hz.2 x h).1 (hz.2 x h).2).mono (by decide), rfl⟩
        refine css_ret (c_call F_digits_of (hr.mono (by decide)) (d_cons (c_var 0) (d_cons (c_add (c_call F_amount_of (hr.mono (by decide)) (d_cons (c_var 0) (d_cons (c_var 1) d_nil)) (fun R h => ⟨_, _, rfl, am xs hx, h⟩)) (c_call F_amount_of (hr.mono (by decide)) (d_cons (c_var 0) (d_cons (c_var 2) d_nil)) (fun R h => ⟨_, _, rfl, am ys hy, h⟩))) d_nil)) (fun R h => ⟨_, _, rfl, ⟨cs, _, rfl, fun c hc => dv_of (lad.pos c hc), by omega, rfl⟩, h⟩)) ?_
        show Except.ok (D.tup ((carF cs (sumXs cs xs ys)).map D.int)) = Except.ok (D.tup ((digitsOf cs (wor cs xs + wor cs ys)).map D.int))
        rw [← wor_add, carF_digits lad]
        rfl
      · show sdRes aBadCoins aBadPayment (.tup (cs.map D.int)) (.tup (xs.map D.int)) d3 = _
        unfold sdRes
        rw [hlr, lenT_ints]
        simp only [hcr, hcr2]
    · show sdRes aBadCoins aBadPayment (.tup (cs.map D.int)) d2 d3 = _
      unfold sdRes
      rw [hlr, lenT_ints]
      simp only [hcr]
  · show sdRes aBadCoins aBadPayment d1 d2 d3 = _
    unfold sdRes
    rw [hlr]
end KK
end

section
set_option Elab.async false
set_option linter.all false
set_option maxRecDepth 100000
set_option maxHeartbeats 4000000
namespace KK
open PySem PySem.Spec PyProof.Rows L2 VL
abbrev s_carries_number : Stmt := topS 23
abbrev N_carries_number : List Str := ["coins", "one", "other", "first", "second"]
theorem sc_carries_number : FnScope N_carries_number ["coins", "one", "other"] (defScope s_carries_number) := ⟨rfl, rfl, rfl, by decide +kernel, rfl, by decide +kernel, by decide +kernel⟩
variable {P : Program} {w : World} {K : PySem.W.Frag} {mg : Str → Option Value} {base : Heap} {f aCoinError aBadNumber aBadPayment aBadCoins : Addr} {fd : FuncData}
def cnRes (aC aN : Addr) (d1 d2 d3 : D) : Res := match ladRes aC d1 with
  | .error e => .error e
  | .ok _ => if within d2 0 (c_MOST_COIN * c_MOST_COIN) then (if within d3 0 (c_MOST_COIN * c_MOST_COIN) then (match d2, d3 with
    | .int a, .int b => .ok (.int ((digitsOf (intsT d1) a).sum + (digitsOf (intsT d1) b).sum - (digitsOf (intsT d1) (a + b)).sum))
    | _, _ => .ok .non) else .error ⟨aN, []⟩) else .error ⟨aN, []⟩
def A_carries_number (aC aN : Addr) (ds : List D) (r : Res) : Prop := ∃ d1 d2 d3, ds = [d1, d2, d3] ∧ plT d1 = true ∧ plD d2 = true ∧ plD d3 = true ∧ r = cnRes aC aN d1 d2 d3
theorem ok_carries_number (T : Blt mg) (F_check_ladder : FnV P w K mg base 3 "check_ladder" (detS (A_check_ladder aBadCoins))) (F_check_amount : FnV P w K mg base 3 "check_amount" (detS (A_check_amount aBadNumber))) (F_digits_of : FnV P w K mg base 1 "digits_of" (detS A_digits_of)) (Fu : Fun K "carries_number" "carries_number" s_carries_number f fd) (hb : Binds K fd ["coins", "one", "other"] []) (hm : mg "carries_number" = some (.ref f)) : FnV P w K mg base 4 "carries_number" (detS (A_carries_number aBadCoins aBadNumber)) := by
  refine fn_pure (k := 3) Fu sc_carries_number hb hm (fun ds r ⟨d, n, m, e, _⟩ => by subst e; rfl) fun cdv A' outer s H E hr B ds r ⟨d1, d2, d3, e, h1, h2, h3, er⟩ => ?_
  subst e er
  refine css_exprR (q_callD F_check_ladder (hr.mono (by decide)) (d_cons (c_var 0) d_nil) ⟨_, rfl, h1, rfl⟩) (fun u hlr => ?_) (fun er hlr => ?_)
  · have hu := ladRes_non hlr
    subst hu
    obtain ⟨cs, rfl, lad, hl60⟩ := lad_of hlr
    refine css_exprR (q_callD F_check_amount (hr.mono (by decide)) (d_cons (c_var 1) d_nil) ⟨_, rfl, h2, rfl⟩) (fun u hcr => ?_) (fun er hcr => ?_)
    · cases hw : within d2 0 (c_MOST_COIN * c_MOST_COIN) with
      | false => rw [hw] at hcr; cases hcr
      | true =>
        obtain ⟨a, rfl⟩ : ∃ n, d2 = .int n := by cases d2 <;> first | exact ⟨_, rfl⟩ | cases hw
        refine css_exprR (q_callD F_check_amount (hr.mono (by decide)) (d_cons (c_var 2) d_nil) ⟨_, rfl, h3, rfl⟩) (fun u hcr2 => ?_) (fun er hcr2 => ?_)
        · cases hw2 : within d3 0 (c_MOST_COIN * c_MOST_COIN) with
          | false => rw [hw2] at hcr2; cases hcr2
          | true =>
            obtain ⟨b, rfl⟩ : ∃ n, d3 = .int n := by cases d3 <;> first | exact ⟨_, rfl⟩ | cases hw2
            have dg : ∀ n, A_digits_of [.tup (cs.map D.int), .int n] (.ok (.tup ((digitsOf cs n).map D.int))) := fun n => ⟨cs, n, rfl, fun c hc => dv_of (lad.pos c hc), by omega, rfl⟩
            refine css_par 3 4 B (d_cons (c_call F_digits_of (hr.mono (by decide)) (d_cons (c_var 0) (d_cons (c_var 1) d_nil)) (fun R h => ⟨_, _, rfl, dg a, h⟩)) (d_cons (c_call F_digits_of (hr.mono (by decide)) (d_cons (c_var 0) (d_cons (c_var 2) d_nil)) (fun R h => ⟨_, _, rfl, dg b, h⟩)) d_nil)) ?_
            refine css_ret (c_sub (c_add (c_sumT B.calm T.sum (c_var 3)) (c_sumT B.calm T.sum (c_var 4))) (c_sumT B.calm T.sum (c_call F_digits_of (hr.mono (by decide)) (d_cons (c_var 0) (d_cons (c_add (c_var 1) (c_var 2)) d_nil)) (fun R h => ⟨_, _, rfl, dg (a + b), h⟩)))) ?_
            show cnRes aBadCoins aBadNumber (.tup (cs.map D.int)) (.int a) (.int b) = _
            unfold cnRes
            simp only [hlr, hw, hw2, if_true, intsT_ints]
        · show cnRes aBadCoins aBadNumber (.tup (cs.map D.int)) (.int a) d3 = _
          unfold cnRes
          cases hw2 : within d3 0 (c_MOST_COIN * c_MOST_COIN) with
          | false =>
            rw [hw2] at hcr2
            simp only [hlr, hw, hw2, if_true]
            exact hcr2
          | true => rw [hw2] at hcr2; cases hcr2
    · show cnRes aBadCoins aBadNumber (.tup (cs.map D.int)) d2 d3 = _
      unfold cnRes
      cases hw : within d2 0 (c_MOST_COIN * c_MOST_COIN) with
      | false =>
        rw [hw] at hcr
        simp only [hlr, hw]
        exact hcr
      | true => rw [hw] at hcr; cases hcr
  · show cnRes aBadCoins aBadNumber d1 d2 d3 = _
    unfold cnRes
    rw [hlr]
end KK
end

section
set_option Elab.async false
set_option linter.all false
set_option maxRecDepth 100000
set_option maxHeartbeats 4000000
namespace KK
open PySem PySem.Spec PyProof.Rows L2 VL
abbrev s_law_hand : Stmt := topS 25
abbrev N_law_hand : List Str := ["script", "cells", "cell"]
theorem sc_law_hand : FnScope N_law_hand ["script"] (defScope s_law_hand) := ⟨rfl, rfl, rfl, by decide +kernel, rfl, by decide +kernel, by decide +kernel⟩
variable {P : Program} {w : World} {K : PySem.W.Frag} {mg : Str → Option Value} {base : Heap} {f aCoinError aBadNumber aBadPayment aBadCoins : Addr} {fd : FuncData}
theorem ok_law_hand (T : Blt mg) (Fu : Fun K "_law_hand" "_law_hand" s_law_hand f fd) (hb : Binds K fd ["script"] []) (hm : mg "_law_hand" = some (.ref f)) : FnN P w K mg base 2 "_law_hand" (A_law_hand 47) := by
  refine fn_new2 (k := 1) Fu sc_law_hand hb hm (fun ds r ⟨d, e, _⟩ => by subst e; rfl) rfl fun cdv A' outer s H E hr B ds es ⟨ns, e, hl, er⟩ => ?_
  subst e er
  refine ps_lcF2 1 (l_lc0 (T := .nm 2) (fun x => match x with | .int n => .int (if n < 0 then -n else n) | x => x) (ci_list (CN.ce (n_slF (c_var 0) o_none (o_some c_int)))) [("cell", 2)] B (blkOk_by (N := ["script", "cells", "cell"]) (sc := defScope s_law_hand) (by decide +kernel))
      (fun _ _ _ _ _ => tg_nm 2 B.nd) (by decide) (fun k p ds hk h => by rcases k with _ | _ | _ | k <;> cases h) (fun i d hd => ?_) ?_)
    ((n_lst (d_cons (c_var 1) (d_cons c_int (d_cons c_int (d_cons (c_add c_int (c_mul c_int (c_lenL T.len (c_var 1)) ?_)) (d_cons c_int d_nil))))) (sz (by simp))).eq ?_)
  · rw [show ((63 : Int)) = ((63 : Nat) : Int) from rfl, cutD_take, ← List.map_take] at hd
    obtain ⟨n, _, rfl⟩ := List.mem_map.mp (List.mem_of_getElem? hd)
    refine ⟨_, .nm, (fun k p es h => by rcases k with _ | _ | _ | k <;> cases h), fun _ _ _ _ _ => c_abs T.abs (c_intI T.int (c_var 2))⟩
  · rw [show ((63 : Int)) = ((63 : Nat) : Int) from rfl, cutD_take, List.length_take, List.length_map]
    exact szl (by omega)
  · exact .inl (by decide)
  · rw [show ((63 : Int)) = ((63 : Nat) : Int) from rfl, cutD_take, ← List.map_take, List.map_map]
    unfold Hd.new Hd.ds
    simp only [List.map_map, List.length_map]
    rfl
end KK
end

section
set_option Elab.async false
set_option linter.all false
set_option maxRecDepth 100000
set_option maxHeartbeats 4000000
namespace KK
open PySem PySem.Spec PyProof.Rows L2 VL
abbrev s_law_draw : Stmt := topS 26
abbrev N_law_draw : List Str := ["hand", "many", "cell", "digit", "number"]
theorem sc_law_draw : FnScope N_law_draw ["hand", "many"] (defScope s_law_draw) := ⟨rfl, rfl, rfl, by decide +kernel, rfl, by decide +kernel, by decide +kernel⟩
variable {P : Program} {w : World} {K : PySem.W.Frag} {mg : Str → Option Value} {base : Heap} {f aCoinError aBadNumber aBadPayment aBadCoins : Addr} {fd : FuncData}
theorem ok_law_draw (T : Blt mg) (Fu : Fun K "_law_draw" "_law_draw" s_law_draw f fd) (hb : Binds K fd ["hand", "many"] []) (hm : mg "_law_draw" = some (.ref f)) : FnV P w K mg base 1 "_law_draw" (mutS A_law_draw) := by
  refine fn_mut (k := 0) (fun cs ds R R' h ⟨hd, m, a, b, c, d, r⟩ => ⟨hd, m, a, b, c, d, h _ _ r⟩) Fu sc_law_draw hb hm (fun cs ds R ⟨hd, m, a, b, _⟩ => by subst b; rfl) fun cdv A' outer s H E hr B q cs ds R ⟨h, many, e1, e2, m0, m1, hR⟩ => ?_
  subst e1 e2
  obtain ⟨cells, i, left, seed, cnt⟩ := h
  have fin : ∀ (h' : Hd) (a b c : Sl), h' = (Hd.mk cells i left seed cnt).turn → CSs (cx P w K mg base ["hand", "many", "cell", "digit", "number"] "_law_draw" s_law_draw f cdv A' outer s H E) [.mut q h'.ds, .dat (.int many), a, b, c] ((defBody s_law_draw).drop 1)
      { nx := fun ρ' => ∃ cs', ρ'[0]? = some (.mut q cs') ∧ R (.ok .non) cs', rt := fun d ρ' => ∃ cs', ρ'[0]? = some (.mut q cs') ∧ R (.ok d) cs', er := fun e ρ' => ∃ cs', ρ'[0]? = some (.mut q cs') ∧ R (.error e) cs' } := fun h' a b c eh => by
    unfold Hd.draw Hd.next at hR
    rw [← eh] at hR
    obtain ⟨cells, i, left, seed, cnt⟩ := h'
    refine css_if (t_bor (t_gt (c_ixL (c_var 0) c_int rfl) c_int)) (fun hc => ?_) (fun hc => ?_)
    · have hc : 0 < left := of_decide_eq_true hc
      refine css_asg 3 B (c_bor rfl (c_mod (c_intI T.int (c_ixL (c_var 0) c_int rfl)) (c_var 1) m0)) ?_
      refine css_setIx (j := 2) 0 B (c_bor rfl (c_div (c_ixL (c_var 0) c_int rfl) (c_var 1) ⟨m0, by omega⟩)) c_int rfl rfl ?_
      refine css_ret (c_var 3) ⟨_, rfl, ?_⟩
      simp only [if_pos hc] at hR
      exact hR
    · have hc : ¬ 0 < left := of_decide_eq_false hc
      refine css_nil ?_
      refine css_setIx (j := 4) 0 B (c_bor rfl (c_add (c_ixL (c_var 0) c_int rfl) c_int)) c_int rfl rfl ?_
      refine css_asg 4 B (c_bor rfl (c_mod (c_intI T.int (c_mul (c_intI T.int (c_add (c_ixL (c_var 0) c_int rfl) (c_mul c_int (c_ixL (c_var 0) c_int rfl) (.inl (by decide))))) c_int (.inr (by decide)))) c_int (by decide))) ?_
      refine css_asg 4 B (c_mod (c_intI T.int (c_mul (c_var 4) (c_add (c_div (c_var 4) c_int ⟨by decide, by decide⟩) c_int) (.inl ?_))) c_int (by decide)) ?_
      · have h1 := Int.emod_nonneg ((seed + 7919 * (cnt + 1)) * 48271) (show (2147483647 : Int) ≠ 0 by decide)
        have h2 := Int.emod_lt_of_pos ((seed + 7919 * (cnt + 1)) * 48271) (show (0 : Int) < 2147483647 by decide)
        omega
      refine css_asg 4 B (c_mod (c_intI T.int (c_mul (c_var 4) (c_add (c_div (c_var 4) c_int ⟨by decide, by decide⟩) c_int) (.inl ?_))) c_int (by decide)) ?_
      · generalize (_ * _ : Int) = z
        have h1 := Int.emod_nonneg z (show (2147483647 : Int) ≠ 0 by decide)
        have h2 := Int.emod_lt_of_pos z (show (0 : Int) < 2147483647 by decide)
        omega
      refine css_ret (c_mod (c_intI T.int (c_div (c_var 4) c_int ⟨by decide, by decide⟩)) (c_var 1) m0) ⟨_, rfl, ?_⟩
      simp only [if_neg hc] at hR
      exact hR
  refine css_if (t_w (w_and (t_bor (t_eqI (c_ixL (c_var 0) c_int rfl) c_int)) (fun _ => (w_and1 (t_bor (t_lt (c_ixL (c_var 0) c_int rfl) (c_lenL T.len (c_ixL (c_var 0) c_int rfl)))))))) (fun hc => ?_) (fun hc => ?_)
  · have hc' : left = 0 ∧ i < cells.length := by simpa using hc
    have hg : (cells.map D.int)[i]? = some (.int (cells.getD i 0)) := at_ints (by rw [List.getD_eq_getElem?_getD, List.getElem?_eq_getElem hc'.2]; rfl)
    refine css_asg 2 B (c_bor rfl (c_ixL (c_ixL (c_var 0) c_int rfl) (c_ixL (c_var 0) c_int rfl) (atI_i rfl hg))) ?_
    refine css_setIx (j := 1) 0 B (c_bor rfl (c_add (c_ixL (c_var 0) c_int rfl) c_int)) c_int rfl rfl ?_
    refine css_setIx (j := 3) 0 B (c_bor rfl (c_mod (c_intI T.int (c_add (c_add (c_mul (c_ixL (c_var 0) c_int rfl) c_int (.inr (by decide))) (c_mul (c_var 2) c_int (.inr (by decide)))) c_int)) c_int (by decide))) c_int rfl rfl ?_
    refine css_if (t_ge (c_var 2) (c_pow c_int c_int ⟨by decide, by decide, by decide⟩)) (fun hd => ?_) (fun hd => ?_)
    · have hd : 10 ^ 18 ≤ cells.getD i 0 := of_decide_eq_true hd
      refine css_setIx (j := 2) 0 B (c_var 2) c_int rfl rfl ?_
      refine css_nil (css_nil ?_)
      refine fin ⟨cells, i + 1, cells.getD i 0, _, cnt⟩ _ _ _ ?_
      unfold Hd.turn
      simp only [if_pos hc', if_pos hd]
    · have hd : ¬ 10 ^ 18 ≤ cells.getD i 0 := of_decide_eq_false hd
      refine css_nil (css_nil ?_)
      refine fin ⟨cells, i + 1, left, _, cnt⟩ _ _ _ ?_
      unfold Hd.turn
      simp only [if_pos hc', if_neg hd]
  · have hc' : ¬ (left = 0 ∧ i < cells.length) := by simpa using hc
    refine css_nil ?_
    refine fin ⟨cells, i, left, seed, cnt⟩ _ _ _ ?_
    unfold Hd.turn
    simp only [if_neg hc']
end KK
end

section
set_option Elab.async false
set_option linter.all false
set_option maxRecDepth 100000
set_option maxHeartbeats 4000000
namespace KK
open PySem PySem.Spec PyProof.Rows L2 VL
abbrev s_law_any : Stmt := topS 27
abbrev N_law_any : List Str := ["hand", "some"]
theorem sc_law_any : FnScope N_law_any ["hand", "some"] (defScope s_law_any) := ⟨rfl, rfl, rfl, by decide +kernel, rfl, by decide +kernel, by decide +kernel⟩
variable {P : Program} {w : World} {K : PySem.W.Frag} {mg : Str → Option Value} {base : Heap} {f aCoinError aBadNumber aBadPayment aBadCoins : Addr} {fd : FuncData}
theorem ok_law_any (T : Blt mg) (F_law_draw : FnV P w K mg base 1 "_law_draw" (mutS A_law_draw)) (Fu : Fun K "_law_any" "_law_any" s_law_any f fd) (hb : Binds K fd ["hand", "some"] []) (hm : mg "_law_any" = some (.ref f)) : FnV P w K mg base 2 "_law_any" (mutS A_law_any) := by
  refine fn_mut (k := 1) (fun cs ds R R' h ⟨hd, m, a, b, c, d, r⟩ => ⟨hd, m, a, b, c, d, h _ _ r⟩) Fu sc_law_any hb hm (fun cs ds R ⟨hd, m, a, b, _⟩ => by subst b; rfl) fun cdv A' outer s H E hr B q cs ds R ⟨h, l, e1, e2, m0, m1, hR⟩ => ?_
  subst e1 e2
  have hl : 0 < l.length := List.length_pos_iff.mpr m0
  have lt := Hd.draw_lt (h := h) (many := (l.length : Nat)) (by omega)
  have hg : l[(h.draw (l.length : Nat)).toNat]? = some (l.getD (h.draw (l.length : Nat)).toNat .non) := by
    rw [List.getD_eq_getElem?_getD, List.getElem?_eq_getElem (by omega)]
    rfl
  exact css_ret (c_ixL (c_var 1) (c_callM 0 F_law_draw (hr.mono (by decide)) rfl (d_cons (c_lenL T.len (c_var 1)) d_nil) rfl (fun R h' => ⟨_, _, _, rfl, h, (l.length : Nat), rfl, rfl, by omega, by omega, h'⟩)) (atI_i (by omega) hg)) ⟨_, rfl, hR⟩
end KK
end

section
set_option Elab.async false
set_option linter.all false
set_option maxRecDepth 100000
set_option maxHeartbeats 4000000
namespace KK
open PySem PySem.Spec PyProof.Rows L2 VL
abbrev s_law_is : Stmt := topS 28
abbrev N_law_is : List Str := ["said", "due", "one", "other"]
theorem sc_law_is : FnScope N_law_is ["said", "due"] (defScope s_law_is) := ⟨rfl, rfl, rfl, by decide +kernel, rfl, by decide +kernel, by decide +kernel⟩
variable {P : Program} {w : World} {K : PySem.W.Frag} {mg : Str → Option Value} {base : Heap} {f aCoinError aBadNumber aBadPayment aBadCoins : Addr} {fd : FuncData}
theorem law_is_sc (T : Blt mg) {cdv : Value} {A' : Around} {outer : List Env} {s : Shared} {H : Hp} {E : XK} (B : Bd (cx P w K mg base N_law_is "_law_is" s_law_is f cdv A' outer s H E)) {d : D} (hs : isSc d = true) :
    CSs (cx P w K mg base N_law_is "_law_is" s_law_is f cdv A' outer s H E) [.dat d, .dat d, .un, .un] (defBody s_law_is) { nx := fun _ => (Except.ok (D.bl true) : Res) = .ok .non, rt := fun d _ => (Except.ok (D.bl true) : Res) = .ok d, er := fun e _ => (Except.ok (D.bl true) : Res) = .error e } := by
  have tl : ∀ (d : D), isSc d = true → isT "tuple" d = false ∧ isT "list" d = false ∧ plD d = true := fun d h => by cases d <;> first | exact ⟨rfl, rfl, rfl⟩ | cases h
  obtain ⟨h1, h2, h3⟩ := tl d hs
  refine css_if (k := false) ((t_val (c_isi2 T.isinstance (c_var 1) (c_bty "tuple" T.tuple) (c_bty "list" T.list) h3 rfl rfl)).eq (by rw [h1, h2]; rfl)) (fun hc => Bool.noConfusion hc) (fun hc => ?_)
  refine css_nil ?_
  by_cases hn : d = .non
  · subst hn
    refine css_if (k := true) (t_w (w_or (k := true) (l := true) ((t_isN (c_var 1) c_non).eq rfl) (fun h => Bool.noConfusion h))) (fun hc => ?_) (fun hc => Bool.noConfusion hc)
    exact css_ret (c_and ((c_isN (c_var 1) c_non).eq (y := .bl true) rfl) (fun _ => c_one ((c_isN (c_var 0) c_non).eq (y := .bl true) rfl))) rfl
  · have hn' : isNon d = false := by cases d <;> first | rfl | exact absurd rfl hn
    refine css_if (k := false) ((t_w (w_or (t_isN (c_var 1) c_non) (fun _ => (w_or1 (t_isN (c_var 0) c_non))))).eq (by rw [hn']; rfl)) (fun hc => Bool.noConfusion hc) (fun hc => ?_)
    refine css_nil ?_
    refine css_if (k := false) ((t_w (w_or (t_neB (c_isi T.isinstance (c_var 0) (c_bty "bool" T.bool) h3 rfl) (c_isi T.isinstance (c_var 1) (c_bty "bool" T.bool) h3 rfl)) (fun _ => (w_or1 (t_neB (c_isi T.isinstance (c_var 0) (c_bty "int" T.int) h3 rfl) (c_isi T.isinstance (c_var 1) (c_bty "int" T.int) h3 rfl)))))).eq (by simp)) (fun hc => Bool.noConfusion hc) (fun hc => ?_)
    refine css_nil ?_
    cases d with
    | int i => exact css_ret (c_and (c_eqB (c_isi T.isinstance (c_var 0) (c_bty "str" T.str) rfl rfl) (c_isi T.isinstance (c_var 1) (c_bty "str" T.str) rfl rfl)) (fun _ => c_one (c_eqI (c_var 0) (c_var 1)))) (by show _ = Except.ok (D.bl (_ && _)); simp)
    | bl i => exact css_ret (c_and (c_eqB (c_isi T.isinstance (c_var 0) (c_bty "str" T.str) rfl rfl) (c_isi T.isinstance (c_var 1) (c_bty "str" T.str) rfl rfl)) (fun _ => c_one (c_eqB (c_var 0) (c_var 1)))) (by show _ = Except.ok (D.bl (_ && _)); simp)
    | str i => exact css_ret (c_and (c_eqB (c_isi T.isinstance (c_var 0) (c_bty "str" T.str) rfl rfl) (c_isi T.isinstance (c_var 1) (c_bty "str" T.str) rfl rfl)) (fun _ => c_one (c_eqS (c_var 0) (c_var 1)))) (by show _ = Except.ok (D.bl (_ && _)); simp)
    | non => exact absurd rfl hn
    | _ => cases hs
theorem ok_law_is_all (T : Blt mg) (Fu : Fun K "_law_is" "_law_is" s_law_is f fd) (hb : Binds K fd ["said", "due"] []) (hm : mg "_law_is" = some (.ref f)) : ∀ n, FnV P w K mg base (n + 1) "_law_is" (detS (A_law_is n)) := fun n => by
  induction n with
  | zero =>
    refine fn_pure (k := 0) Fu sc_law_is hb hm (fun ds r ⟨d, e, _⟩ => by subst e; rfl) fun cdv A' outer s H E hr B ds r ⟨d, e, hp, er⟩ => ?_
    subst e er
    exact law_is_sc T B (by cases d <;> first | rfl | (unfold isPl at hp; cases hp))
  | succ n ih =>
    refine fn_pure (k := n + 1) Fu sc_law_is hb hm (fun ds r ⟨d, e, _⟩ => by subst e; rfl) fun cdv A' outer s H E hr B ds r ⟨d, e, hp, er⟩ => ?_
    subst e er
    have hmem : ∀ l : List D, (d = .tup l ∨ d = .lst l) → l.length < 100000 ∧ ∀ x ∈ l, isPl n x = true := fun l h => by
      rcases h with rfl | rfl <;>
        (unfold isPl at hp
         rw [Bool.and_eq_true] at hp
         exact ⟨of_decide_eq_true hp.1, isPls_mem hp.2⟩)
    by_cases hsc : isSc d = true
    · exact law_is_sc T B hsc
    cases d with
    | tup l =>
      obtain ⟨hl, hm'⟩ := hmem l (by first | exact .inl rfl | exact .inr rfl)
      refine css_if (t_val (c_isi2 T.isinstance (c_var 1) (c_bty "tuple" T.tuple) (c_bty "list" T.list) rfl rfl rfl)) (fun hc => ?_) (fun hc => by cases hc)
      refine css_if (t_w (w_or (t_neB (c_isi T.isinstance (c_var 0) (c_bty "tuple" T.tuple) rfl rfl) (c_isi T.isinstance (c_var 1) (c_bty "tuple" T.tuple) rfl rfl)) (fun _ => (w_or1 (t_neB (c_isi T.isinstance (c_var 0) (c_bty "list" T.list) rfl rfl) (c_isi T.isinstance (c_var 1) (c_bty "list" T.list) rfl rfl)))))) (fun hc => absurd hc (by simp [isT, tyD])) (fun hc => ?_)
      refine css_nil ?_
      refine css_ret (c_and (c_eqI (c_lenT T.len (c_var 0)) (c_lenT T.len (c_var 1))) (fun _ => (c_one (c_allL B.calm T.all (bs := List.replicate l.length true) ((CN.ce (n_lc0 (T := .tp [.nm 2, .nm 3]) (fun d => .bl true) (ci_zipT T.zip (c_var 0) (c_var 1)) [("one", 2), ("other", 3)] B (blkOk_by (N := ["said", "due", "one", "other"]) (sc := defScope s_law_is) (by decide +kernel))
               (fun _ _ _ _ _ => tg_tp rfl (tgs_cons (tg_nm 2 B.nd) (tgs_cons (tg_nm 3 B.nd) tgs_nil))) (by decide) (fun k p ds hk h => by rcases k with _ | _ | _ | _ | k <;> cases h) (fun i d hd => ?_) ?_)).eq ?_))))) ?_
      · obtain ⟨x, hx, rfl⟩ := zip_same hd
        exact ⟨_, .tp (.cons .nm (.cons .nm .nil)), (fun k p es h => by rcases k with _ | _ | _ | _ | k <;> cases h), fun _ _ _ _ _ => c_call ih (hr.mono (Nat.le_refl _)) (d_cons (c_var 2) (d_cons (c_var 3) d_nil)) (fun R h => ⟨_, _, rfl, ⟨x, rfl, hm' x hx, rfl⟩, h⟩)⟩
      · rw [zipD_len, Nat.min_self]; exact szl hl
      · rw [List.map_const', zipD_len, Nat.min_self, List.map_replicate]
      · rw [all_rep]; show _ = Except.ok (D.bl (_ && _)); simp
    | lst l =>
      obtain ⟨hl, hm'⟩ := hmem l (by first | exact .inl rfl | exact .inr rfl)
      refine css_if (t_val (c_isi2 T.isinstance (c_var 1) (c_bty "tuple" T.tuple) (c_bty "list" T.list) rfl rfl rfl)) (fun hc => ?_) (fun hc => by cases hc)
      refine css_if (t_w (w_or (t_neB (c_isi T.isinstance (c_var 0) (c_bty "tuple" T.tuple) rfl rfl) (c_isi T.isinstance (c_var 1) (c_bty "tuple" T.tuple) rfl rfl)) (fun _ => (w_or1 (t_neB (c_isi T.isinstance (c_var 0) (c_bty "list" T.list) rfl rfl) (c_isi T.isinstance (c_var 1) (c_bty "list" T.list) rfl rfl)))))) (fun hc => absurd hc (by simp [isT, tyD])) (fun hc => ?_)
      refine css_nil ?_
      refine css_ret (c_and (c_eqI (c_lenL T.len (c_var 0)) (c_lenL T.len (c_var 1))) (fun _ => (c_one (c_allL B.calm T.all (bs := List.replicate l.length true) ((CN.ce (n_lc0 (T := .tp [.nm 2, .nm 3]) (fun d => .bl true) (ci_zipL T.zip (c_var 0) (c_var 1)) [("one", 2), ("other", 3)] B (blkOk_by (N := ["said", "due", "one", "other"]) (sc := defScope s_law_is) (by decide +kernel))
               (fun _ _ _ _ _ => tg_tp rfl (tgs_cons (tg_nm 2 B.nd) (tgs_cons (tg_nm 3 B.nd) tgs_nil))) (by decide) (fun k p ds hk h => by rcases k with _ | _ | _ | _ | k <;> cases h) (fun i d hd => ?_) ?_)).eq ?_))))) ?_
      · obtain ⟨x, hx, rfl⟩ := zip_same hd
        exact ⟨_, .tp (.cons .nm (.cons .nm .nil)), (fun k p es h => by rcases k with _ | _ | _ | _ | k <;> cases h), fun _ _ _ _ _ => c_call ih (hr.mono (Nat.le_refl _)) (d_cons (c_var 2) (d_cons (c_var 3) d_nil)) (fun R h => ⟨_, _, rfl, ⟨x, rfl, hm' x hx, rfl⟩, h⟩)⟩
      · rw [zipD_len, Nat.min_self]; exact szl hl
      · rw [List.map_const', zipD_len, Nat.min_self, List.map_replicate]
      · rw [all_rep]; show _ = Except.ok (D.bl (_ && _)); simp
    | _ => first | exact absurd rfl hsc | (unfold isPl at hp; cases hp)
theorem ok_law_is0 (T : Blt mg) (Fu : Fun K "_law_is" "_law_is" s_law_is f fd) (hb : Binds K fd ["said", "due"] []) (hm : mg "_law_is" = some (.ref f)) : FnV P w K mg base 1 "_law_is" (detS (A_law_is 0)) := by
  exact ok_law_is_all T Fu hb hm 0
theorem ok_law_is1 (T : Blt mg) (Fu : Fun K "_law_is" "_law_is" s_law_is f fd) (hb : Binds K fd ["said", "due"] []) (hm : mg "_law_is" = some (.ref f)) : FnV P w K mg base 2 "_law_is" (detS (A_law_is 1)) := by
  exact ok_law_is_all T Fu hb hm 1
theorem ok_law_is2 (T : Blt mg) (Fu : Fun K "_law_is" "_law_is" s_law_is f fd) (hb : Binds K fd ["said", "due"] []) (hm : mg "_law_is" = some (.ref f)) : FnV P w K mg base 3 "_law_is" (detS (A_law_is 2)) := by
  exact ok_law_is_all T Fu hb hm 2
theorem ok_law_is3 (T : Blt mg) (Fu : Fun K "_law_is" "_law_is" s_law_is f fd) (hb : Binds K fd ["said", "due"] []) (hm : mg "_law_is" = some (.ref f)) : FnV P w K mg base 4 "_law_is" (detS (A_law_is 3)) := by
  exact ok_law_is_all T Fu hb hm 3
end KK
end

section
set_option Elab.async false
set_option linter.all false
set_option maxRecDepth 100000
set_option maxHeartbeats 4000000
namespace KK
open PySem PySem.Spec PyProof.Rows L2 VL
abbrev s_law_worth : Stmt := topS 29
abbrev N_law_worth : List Str := ["coins", "counts", "coin", "count"]
theorem sc_law_worth : FnScope N_law_worth ["coins", "counts"] (defScope s_law_worth) := ⟨rfl, rfl, rfl, by decide +kernel, rfl, by decide +kernel, by decide +kernel⟩
variable {P : Program} {w : World} {K : PySem.W.Frag} {mg : Str → Option Value} {base : Heap} {f aCoinError aBadNumber aBadPayment aBadCoins : Addr} {fd : FuncData}
def A_law_worth (ds : List D) (r : Res) : Prop := A_amount_of ds r
theorem ok_law_worth (T : Blt mg) (Fu : Fun K "_law_worth" "_law_worth" s_law_worth f fd) (hb : Binds K fd ["coins", "counts"] []) (hm : mg "_law_worth" = some (.ref f)) : FnV P w K mg base 1 "_law_worth" (detS A_law_worth) := by
  refine fn_pure (k := 0) Fu sc_law_worth hb hm (fun ds r ⟨cs, d, e, _⟩ => by subst e; rfl) fun cdv A' outer s H E hr B ds r ⟨cs, xs, e, hl, h60, hc, hx, er⟩ => ?_
  subst e er
  refine css_ret (c_sumL B.calm T.sum (ns := (List.range cs.length).map fun k => cs.getD k 0 * xs.getD k 0) (CE.eq (CN.ce (n_lc0 (T := .tp [.nm 2, .nm 3]) (fun d => match d with | .tup [.int c, .int x] => .int (c * x) | _ => .non) (ci_zipT T.zip (c_var 0) (c_var 1)) [("coin", 2), ("count", 3)] B (blkOk_by (N := N_law_worth) (sc := defScope s_law_worth) (by decide +kernel))
      (fun _ _ _ _ _ => tg_tp rfl (tgs_cons (tg_nm 2 B.nd) (tgs_cons (tg_nm 3 B.nd) tgs_nil))) (by decide) (fun k p ds hk h => by rcases k with _ | _ | _ | _ | k <;> cases h) (fun i d hd => ?_) ?_)) ?_)) ?_
  · obtain ⟨x, y, h1, h2, rfl⟩ := zipD_inv hd
    obtain ⟨u, hu, rfl⟩ := List.mem_map.mp (List.mem_of_getElem? h1)
    obtain ⟨v, hv, rfl⟩ := List.mem_map.mp (List.mem_of_getElem? h2)
    exact ⟨_, .tp (.cons .nm (.cons .nm .nil)), (fun k p es h => by rcases k with _ | _ | _ | _ | k <;> cases h), fun _ _ _ _ _ => c_mulW (c_var 2) (c_var 3) (mulW_of (hc u hu) (hx v hv) (by decide))⟩
  · rw [zipD_len, List.length_map, List.length_map]; exact szl (by omega)
  · rw [zipD_ints hl, List.map_map, List.map_map]
    rfl
  · show Except.ok (D.int (wor cs xs)) = _
    rw [sum_sumTo]
    rfl
end KK
end

section
set_option Elab.async false
set_option linter.all false
set_option maxRecDepth 100000
set_option maxHeartbeats 4000000
namespace KK
open PySem PySem.Spec PyProof.Rows L2 VL
abbrev s_law_deep : Stmt := topS 30
abbrev N_law_deep : List Str := ["hand", "found", "turn"]
theorem sc_law_deep : FnScope N_law_deep ["hand"] (defScope s_law_deep) := ⟨rfl, rfl, rfl, by decide +kernel, rfl, by decide +kernel, by decide +kernel⟩
variable {P : Program} {w : World} {K : PySem.W.Frag} {mg : Str → Option Value} {base : Heap} {f aCoinError aBadNumber aBadPayment aBadCoins : Addr} {fd : FuncData}
theorem ok_law_deep (T : Blt mg) (F_law_draw : FnV P w K mg base 1 "_law_draw" (mutS A_law_draw)) (F_law_any : FnV P w K mg base 2 "_law_any" (mutS A_law_any)) (Fu : Fun K "_law_deep" "_law_deep" s_law_deep f fd) (hb : Binds K fd ["hand"] []) (hm : mg "_law_deep" = some (.ref f)) : FnV P w K mg base 3 "_law_deep" (mutS A_law_deep) := by
  refine fn_mut (k := 2) (fun cs ds R R' h ⟨hd, a, b, r⟩ => ⟨hd, a, b, h _ _ r⟩) Fu sc_law_deep hb hm (fun cs ds R ⟨hd, a, b, _⟩ => by subst b; rfl) fun cdv A' outer s H E hr B q cs ds R ⟨h, e1, e2, hR⟩ => ?_
  subst e1 e2
  refine css_asg 1 B (c_callM 0 F_law_any (hr.mono (by decide)) rfl (d_cons (CN.ce (n_lst (d_cons c_non (d_cons c_str (d_cons c_bl d_nil))) (sz (by simp)))) d_nil) rfl (fun R h' => ⟨_, _, _, rfl, h, _, rfl, rfl, by simp, by decide, h'⟩)) ?_
  have b29 := Hd.draw_lt (h := h.next 3) (many := 29) (by decide)
  refine css_for (T := .nm 2) B (ci_range1 T.range (c_add c_int (c_callM 0 F_law_draw (hr.mono (by decide)) rfl (d_cons c_int d_nil) rfl (fun R h' => ⟨_, _, _, rfl, h.next 3, 29, rfl, rfl, by decide, by decide, h'⟩))) ⟨by omega, by omega⟩) (tg_nm 2 B.nd)
    (fun i ρ => ∃ a, let p := deepGo i (([.non, .str "0", .bl true] : List D).getD (h.draw 3).toNat .non) ((h.next 3).next 29); ρ = [.mut q p.2.ds, .dat p.1, a]) ⟨_, rfl⟩ (fun i d ρ hd hJ => ?_) (fun ρ hJ => ?_)
  · obtain ⟨hi, rfl⟩ := rangeD_inv hd
    obtain ⟨a, e⟩ := hJ
    generalize hp : deepGo i (([.non, .str "0", .bl true] : List D).getD (h.draw 3).toNat .non) ((h.next 3).next 29) = p at e
    simp only at e
    subst e
    refine ⟨_, .nm, ?_⟩
    have b3 := Hd.draw_lt (h := p.2) (many := 3) (by decide)
    refine css_asg 1 B (c_ixL (d := nest p.1 (p.2.draw 3)) (CN.ce (n_lst (d_cons (c_tup (d_cons (c_var 1) d_nil) (sz (by simp))) (d_cons (CN.ce (n_lst (d_cons (c_var 1) d_nil) (sz (by simp)))) (d_cons (c_dict1 1 rfl) d_nil))) (sz (by simp)))) (c_callM 0 F_law_draw (hr.mono (by decide)) rfl (d_cons c_int d_nil) rfl (fun R h' => ⟨_, _, _, rfl, p.2, 3, rfl, rfl, by decide, by decide, h'⟩)) ?_) ?_
    · rcases lt3 (h := p.2) with e | e | e <;> (rw [e]; rfl)
    · refine css_nil ⟨.dat (.int (0 + (i : Nat))), ?_⟩
      show _ = [Sl.mut q (deepGo (i + 1) _ _).2.ds, _, _]
      unfold deepGo
      rw [hp]
      rfl
  · obtain ⟨a, e⟩ := hJ
    simp only at e
    subst e
    rw [rangeD_len]
    exact css_ret (c_var 1) ⟨_, rfl, hR⟩
end KK
end

section
set_option Elab.async false
set_option linter.all false
set_option maxRecDepth 100000
set_option maxHeartbeats 4000000
namespace KK
open PySem PySem.Spec PyProof.Rows L2 VL
abbrev s_law_top : Stmt := topS 31
abbrev N_law_top : List Str := ["often", "found", "turn"]
theorem sc_law_top : FnScope N_law_top ["often"] (defScope s_law_top) := ⟨rfl, rfl, rfl, by decide +kernel, rfl, by decide +kernel, by decide +kernel⟩
variable {P : Program} {w : World} {K : PySem.W.Frag} {mg : Str → Option Value} {base : Heap} {f aCoinError aBadNumber aBadPayment aBadCoins : Addr} {fd : FuncData}
theorem ok_top (Fu : Fun K "_law_top" "_law_top" s_law_top f fd) (hb : Binds K fd ["often"] []) (hm : mg "_law_top" = some (.ref f)) (T : Blt mg) (n : Nat) (hn : n ≤ 4) : FnV P w K mg base 1 "_law_top" (detS fun ds r => ds = [.int (n : Nat)] ∧ r = .ok (.int ((10 ^ 50) ^ n))) := by
  refine fn_pure (k := 0) Fu sc_law_top hb hm (fun ds r ⟨e, _⟩ => by subst e; rfl) fun cdv A' outer s H E hr B ds r ⟨e, er⟩ => ?_
  subst e er
  refine css_asg 1 B c_int ?_
  refine css_for (T := .nm 2) B (ci_range1 T.range (c_var 0) (by omega)) (tg_nm 2 B.nd) (fun i ρ => i ≤ n ∧ ∃ a, ρ = [.dat (.int (n : Nat)), .dat (.int ((10 ^ 50) ^ i)), a]) ⟨Nat.zero_le _, _, rfl⟩ (fun i d ρ hd hJ => ?_) (fun ρ hJ => ?_)
  · obtain ⟨hi, rfl⟩ := rangeD_inv hd
    obtain ⟨_, a, rfl⟩ := hJ
    refine ⟨_, .nm, ?_⟩
    refine css_asg 1 B (c_mulW (c_var 1) (c_pow c_int c_int ⟨by decide, by decide, by decide⟩) ?_) ?_
    · have : i < n := by omega
      have : i = 0 ∨ i = 1 ∨ i = 2 ∨ i = 3 := by omega
      rcases this with rfl | rfl | rfl | rfl <;> (unfold CMulW; decide +kernel)
    exact css_nil ⟨by omega, .dat (.int (0 + (i : Nat))), by rw [Int.pow_succ]; rfl⟩
  · obtain ⟨_, a, rfl⟩ := hJ
    exact css_ret (c_var 1) (by rw [rangeD_len, Int.toNat_natCast])
def A_law_top2 (ds : List D) (r : Res) : Prop := ds = [.int 2] ∧ r = .ok (.int c_MOST_COIN)
def A_law_top4 (ds : List D) (r : Res) : Prop := ds = [.int 4] ∧ r = .ok (.int (c_MOST_COIN * c_MOST_COIN))
theorem fnv_cast {x : Str} {k : Nat} {A B : List D → Res → Prop} (h : FnV P w K mg base k x (detS A)) (e : A = B) : FnV P w K mg base k x (detS B) := e ▸ h
theorem ok_law_top2 (T : Blt mg) (Fu : Fun K "_law_top" "_law_top" s_law_top f fd) (hb : Binds K fd ["often"] []) (hm : mg "_law_top" = some (.ref f)) : FnV P w K mg base 1 "_law_top" (detS A_law_top2) := by
  exact fnv_cast (ok_top Fu hb hm T 2 (by decide)) (by funext ds r; unfold A_law_top2; rw [show ((10 : Int) ^ 50) ^ 2 = c_MOST_COIN by unfold c_MOST_COIN; decide +kernel]; rfl)
theorem ok_law_top4 (T : Blt mg) (Fu : Fun K "_law_top" "_law_top" s_law_top f fd) (hb : Binds K fd ["often"] []) (hm : mg "_law_top" = some (.ref f)) : FnV P w K mg base 1 "_law_top" (detS A_law_top4) := by
  exact fnv_cast (ok_top Fu hb hm T 4 (by decide)) (by funext ds r; unfold A_law_top4; rw [show ((10 : Int) ^ 50) ^ 4 = c_MOST_COIN * c_MOST_COIN by unfold c_MOST_COIN; decide +kernel]; rfl)
end KK
end

section
set_option Elab.async false
set_option linter.all false
set_option maxRecDepth 100000
set_option maxHeartbeats 4000000
namespace KK
open PySem PySem.Spec PyProof.Rows L2 VL
abbrev s_law_ladder : Stmt := topS 32
abbrev N_law_ladder : List Str := ["hand", "many", "wide", "found"]
theorem sc_law_ladder : FnScope N_law_ladder ["hand"] (defScope s_law_ladder) := ⟨rfl, rfl, rfl, by decide +kernel, rfl, by decide +kernel, by decide +kernel⟩
variable {P : Program} {w : World} {K : PySem.W.Frag} {mg : Str → Option Value} {base : Heap} {f aCoinError aBadNumber aBadPayment aBadCoins : Addr} {fd : FuncData}
def A_law_ladder (cs ds : List D) (R : Res → List D → Prop) : Prop := ∃ h : Hd, cs = h.ds ∧ ds = [] ∧ ∀ (l : List Int) (h' : Hd), Lad l → l.length ≤ 60 → R (.ok (.tup (l.map D.int))) h'.ds
theorem ok_law_ladder (T : Blt mg) (F_law_draw : FnV P w K mg base 1 "_law_draw" (mutS A_law_draw)) (F_law_any : FnV P w K mg base 2 "_law_any" (mutS A_law_any)) (F_law_top2 : FnV P w K mg base 1 "_law_top" (detS A_law_top2)) (Fu : Fun K "_law_ladder" "_law_ladder" s_law_ladder f fd) (hb : Binds K fd ["hand"] []) (hm : mg "_law_ladder" = some (.ref f)) : FnV P w K mg base 3 "_law_ladder" (mutS A_law_ladder) := by
  refine fn_mut (k := 2) (fun cs ds R R' h ⟨hd, a, b, r⟩ => ⟨hd, a, b, fun l h' h1 h2 => h _ _ (r l h' h1 h2)⟩) Fu sc_law_ladder hb hm (fun cs ds R ⟨hd, a, b, _⟩ => by subst b; rfl) fun cdv A' outer s H E hr B q cs ds R ⟨h, e1, e2, hR⟩ => ?_
  subst e1 e2
  obtain ⟨mn, hm1, em⟩ := pick_draw (ns := [1, 2, 3, 5, 12, 60]) (h := h) (by simp)
  obtain ⟨wd, hw1, ew⟩ := pick_draw (ns := [1, 3, 9, 20]) (h := h.next 6) (by simp)
  have m0 : 1 ≤ mn ∧ mn ≤ 60 := by
    simp only [List.mem_cons, List.not_mem_nil, or_false] at hm1
    omega
  have w0 : 1 ≤ wd ∧ wd ≤ 20 := by
    simp only [List.mem_cons, List.not_mem_nil, or_false] at hw1
    omega
  refine css_par 1 2 B (d_cons (CE.eq (y := .int mn) (c_callM 0 F_law_any (hr.mono (by decide)) rfl (d_cons (CN.ce (n_lst (d_cons c_int (d_cons c_int (d_cons c_int (d_cons c_int (d_cons c_int (d_cons c_int d_nil)))))) (sz (by simp)))) d_nil) rfl (fun R h' => ⟨_, _, _, rfl, h, _, rfl, rfl, by simp, by decide, h'⟩)) em)
    (d_cons (CE.eq (y := .int wd) (c_callM 0 F_law_any (hr.mono (by decide)) rfl (d_cons (CN.ce (n_lst (d_cons c_int (d_cons c_int (d_cons c_int (d_cons c_int d_nil)))) (sz (by simp)))) d_nil) rfl (fun R h' => ⟨_, _, _, rfl, h.next 6, _, rfl, rfl, by simp, by decide, h'⟩)) ew) d_nil)) ?_
  refine css_asgN 3 B (n_lst (d_cons c_int d_nil) (sz (by simp))) (fun q2 => ?_)
  refine css_while B (fun m ρ => ∃ (g : Hd) (l : List Int), Lad l ∧ l.length ≤ 60 ∧ m = 60 - l.length ∧ ρ = [.mut q g.ds, .dat (.int mn), .dat (.int wd), .mut q2 (l.map D.int)]) 59
    ⟨(h.next 6).next 4, [1], ⟨by decide, rfl, fun c hc => by rw [List.mem_singleton] at hc; subst hc; exact ⟨by decide, by unfold c_MOST_COIN; decide⟩, fun k hk => by simp at hk⟩, by decide, rfl, rfl⟩ (fun m ρ hJ => ?_)
  obtain ⟨g, l, lad, hl8, rfl, rfl⟩ := hJ
  have el : (l.map D.int).length = l.length := List.length_map _
  have hne := lad.ne
  obtain ⟨g1, g2, g3⟩ := lad.at (k := l.length - 1) (by omega)
  have hlast : atI (l.map D.int) (-1) = some (.int (l.getD (l.length - 1) 0)) := at_last (by rw [el]; exact at_ints g1)
  refine ⟨_, _, t_w (w_and (t_bor (t_lt (c_lenL T.len (c_var 3)) (c_var 1))) (fun _ => (w_and1 (t_bor (t_le (c_mul (c_ixL (c_var 3) (c_neg c_int) hlast) (c_add c_int (c_var 2)) (.inr ⟨by omega, by omega⟩)) (c_call F_law_top2 (hr.mono (by decide)) (d_cons c_int d_nil) (fun R h' => ⟨_, _, rfl, ⟨rfl, rfl⟩, h'⟩))))))), fun hc => ?_, fun hc => ?_⟩
  · rw [el] at hc
    obtain ⟨c1, c2⟩ := Bool.and_eq_true_iff.mp hc
    have c1 := of_decide_eq_true c1
    have c2 := of_decide_eq_true c2
    have bw := Hd.draw_lt (h := g) (many := wd) (by omega)
    refine css_append 3 (c_mul (c_bor rfl (c_ixL (c_var 3) (c_neg c_int) hlast)) (c_add c_int (c_callM 0 F_law_draw (hr.mono (by decide)) rfl (d_cons (c_var 2) d_nil) rfl (fun R h' => ⟨_, _, _, rfl, g, wd, rfl, rfl, by omega, by omega, h'⟩))) (.inr ⟨by omega, by omega⟩)) rfl rfl (by rw [el]; exact szl (by omega)) ?_
    have hle : l.getD (l.length - 1) 0 * (2 + g.draw wd) ≤ l.getD (l.length - 1) 0 * (2 + wd) := Int.mul_le_mul_of_nonneg_left (by omega) (by omega)
    have hgt : l.getD (l.length - 1) 0 * 2 ≤ l.getD (l.length - 1) 0 * (2 + g.draw wd) := Int.mul_le_mul_of_nonneg_left (by omega) (by omega)
    refine css_nil ⟨60 - (l.length + 1), by omega, g.next wd, l ++ [l.getD (l.length - 1) 0 * (2 + g.draw wd)], lad.push (by omega) (Int.mul_emod_right _ _) (by omega), by rw [List.length_append]; simp; omega, by rw [List.length_append]; rfl, by rw [List.map_append]; rfl⟩
  · refine css_freeze (i := 3) rfl ?_
    exact css_ret (c_tupL T.tuple (c_var 3)) ⟨_, rfl, hR l g lad hl8⟩
end KK
end

section
set_option Elab.async false
set_option linter.all false
set_option maxRecDepth 100000
set_option maxHeartbeats 4000000
namespace KK
open PySem PySem.Spec PyProof.Rows L2 VL
abbrev s_law_number : Stmt := topS 33
abbrev N_law_number : List Str := ["hand", "found", "turn"]
theorem sc_law_number : FnScope N_law_number ["hand"] (defScope s_law_number) := ⟨rfl, rfl, rfl, by decide +kernel, rfl, by decide +kernel, by decide +kernel⟩
variable {P : Program} {w : World} {K : PySem.W.Frag} {mg : Str → Option Value} {base : Heap} {f aCoinError aBadNumber aBadPayment aBadCoins : Addr} {fd : FuncData}
def numGo : Nat → Int → Hd → Int × Hd
  | 0, n, h => (n, h)
  | i + 1, n, h => let p := numGo i n h; (p.1 * 10 ^ 6 + p.2.draw (10 ^ 6), p.2.next (10 ^ 6))
def numM (h : Hd) : Int := pickI [2, 10, 1000] h
def numH (h : Hd) : Hd := (h.next 3).next (numM h)
def numF (h : Hd) : Int × Hd := numGo (pickI [0, 0, 1, 4, 14, 32] (numH h)).toNat ((h.next 3).draw (numM h)) ((numH h).next 6)
theorem numGo_lt {n : Int} {h : Hd} (h0 : 0 ≤ n) (h1 : n < 1000) : ∀ i, 0 ≤ (numGo i n h).1 ∧ (numGo i n h).1 < 1000 * (10 ^ 6) ^ i
  | 0 => ⟨h0, by show n < 1000 * 1; omega⟩
  | i + 1 => by
    obtain ⟨a, b⟩ := numGo_lt (h := h) h0 h1 i
    have g6 := Hd.draw_lt (h := (numGo i n h).2) (many := 10 ^ 6) (by decide)
    show 0 ≤ (numGo i n h).1 * 10 ^ 6 + (numGo i n h).2.draw (10 ^ 6) ∧ (numGo i n h).1 * 10 ^ 6 + (numGo i n h).2.draw (10 ^ 6) < _
    rw [show (1000 : Int) * (10 ^ 6) ^ (i + 1) = 1000 * (10 ^ 6) ^ i * 10 ^ 6 by rw [Int.pow_succ, Int.mul_assoc]]
    generalize (1000 : Int) * (10 ^ 6) ^ i = z at b ⊢
    generalize (numGo i n h).2.draw (10 ^ 6) = y at g6 ⊢
    omega
theorem numM_in (h : Hd) : 0 < numM h ∧ numM h ≤ 1000 := by
  have := pickI_mem (ns := [2, 10, 1000]) (h := h) (by simp)
  unfold numM
  simp only [List.mem_cons, List.not_mem_nil, or_false] at this
  omega
theorem numT_in (h : Hd) : 0 ≤ pickI [0, 0, 1, 4, 14, 32] h ∧ pickI [0, 0, 1, 4, 14, 32] h ≤ 32 := by
  have := pickI_mem (ns := [0, 0, 1, 4, 14, 32]) (h := h) (by simp)
  simp only [List.mem_cons, List.not_mem_nil, or_false] at this
  omega
theorem numF_in (h : Hd) : 0 ≤ (numF h).1 ∧ (numF h).1 ≤ 10 ^ 195 := by
  have h1 := numM_in h
  have h2 := Hd.draw_lt (h := h.next 3) (many := numM h) h1.1
  have h3 := numT_in (numH h)
  obtain ⟨a, b⟩ := numGo_lt (n := (h.next 3).draw (numM h)) (h := (numH h).next 6) h2.1 (by omega) (pickI [0, 0, 1, 4, 14, 32] (numH h)).toNat
  refine ⟨a, Int.le_of_lt (Int.lt_of_lt_of_le b ?_)⟩
  have e : ((10 : Int) ^ 6) ^ (pickI [0, 0, 1, 4, 14, 32] (numH h)).toNat ≤ (10 ^ 6) ^ 32 := by
    have : ∀ j, j ≤ 32 → ((10 : Int) ^ 6) ^ (32 - j) ≤ (10 ^ 6) ^ 32 := fun j => by
      induction j with
      | zero => intro _; exact Int.le_refl _
      | succ j ih =>
        intro hj
        have h5 := ih (by omega)
        have e : 32 - j = (32 - (j + 1)) + 1 := by omega
        rw [e, Int.pow_succ] at h5
        have : (0 : Int) < (10 ^ 6) ^ (32 - (j + 1)) := Int.pow_pos (by decide)
        generalize ((10 : Int) ^ 6) ^ (32 - (j + 1)) = z at h5 this ⊢
        omega
    have h4 := this (32 - (pickI [0, 0, 1, 4, 14, 32] (numH h)).toNat) (by omega)
    rw [show 32 - (32 - (pickI [0, 0, 1, 4, 14, 32] (numH h)).toNat) = (pickI [0, 0, 1, 4, 14, 32] (numH h)).toNat by omega] at h4
    exact h4
  have e2 : (1000 : Int) * (10 ^ 6) ^ 32 = 10 ^ 195 := by decide +kernel
  rw [← e2]
  exact Int.mul_le_mul_of_nonneg_left e (by decide)
theorem num_MM : (10 : Int) ^ 195 * 2 ≤ c_MOST_COIN * c_MOST_COIN := by unfold c_MOST_COIN; decide +kernel
def A_law_number (cs ds : List D) (R : Res → List D → Prop) : Prop := ∃ h : Hd, cs = h.ds ∧ ds = [] ∧ R (.ok (.int (numF h).1)) (numF h).2.ds
theorem ok_law_number (T : Blt mg) (F_law_draw : FnV P w K mg base 1 "_law_draw" (mutS A_law_draw)) (F_law_any : FnV P w K mg base 2 "_law_any" (mutS A_law_any)) (Fu : Fun K "_law_number" "_law_number" s_law_number f fd) (hb : Binds K fd ["hand"] []) (hm : mg "_law_number" = some (.ref f)) : FnV P w K mg base 3 "_law_number" (mutS A_law_number) := by
  refine fn_mut (k := 2) (fun cs ds R R' h ⟨hd, a, b, r⟩ => ⟨hd, a, b, h _ _ r⟩) Fu sc_law_number hb hm (fun cs ds R ⟨hd, a, b, _⟩ => by subst b; rfl) fun cdv A' outer s H E hr B q cs ds R ⟨h, e1, e2, hR⟩ => ?_
  subst e1 e2
  have m3 := numM_in h
  refine css_asg 1 B (c_callM 0 F_law_draw (hr.mono (by decide)) rfl (d_cons (CE.eq (y := .int (numM h)) (c_callM 0 F_law_any (hr.mono (by decide)) rfl (d_cons (CN.ce (n_lst (d_cons c_int (d_cons c_int (d_cons c_int d_nil))) (sz (by simp)))) d_nil) rfl (fun R h' => ⟨_, _, _, rfl, h, _, rfl, rfl, by simp, by decide, h'⟩)) (pickI_eq (ns := [2, 10, 1000]) (by simp))) d_nil) rfl (fun R h' => ⟨_, _, _, rfl, h.next 3, numM h, rfl, rfl, m3.1, by omega, h'⟩)) ?_
  have t6 := numT_in (numH h)
  refine css_for (T := .nm 2) B (ci_range1 T.range (CE.eq (y := .int (pickI [0, 0, 1, 4, 14, 32] (numH h))) (c_callM 0 F_law_any (hr.mono (by decide)) rfl (d_cons (CN.ce (n_lst (d_cons c_int (d_cons c_int (d_cons c_int (d_cons c_int (d_cons c_int (d_cons c_int d_nil)))))) (sz (by simp)))) d_nil) rfl (fun R h' => ⟨_, _, _, rfl, numH h, _, rfl, rfl, by simp, by decide, h'⟩)) (pickI_eq (ns := [0, 0, 1, 4, 14, 32]) (by simp))) ⟨by omega, by omega⟩) (tg_nm 2 B.nd)
    (fun i ρ => ∃ a : Sl, ρ = [.mut q (numGo i ((h.next 3).draw (numM h)) ((numH h).next 6)).2.ds, .dat (.int (numGo i ((h.next 3).draw (numM h)) ((numH h).next 6)).1), a]) ⟨_, rfl⟩ (fun i d ρ hd hJ => ?_) (fun ρ hJ => ?_)
  · obtain ⟨hi, rfl⟩ := rangeD_inv hd
    obtain ⟨a, rfl⟩ := hJ
    refine ⟨_, .nm, ?_⟩
    generalize hp : numGo i ((h.next 3).draw (numM h)) ((numH h).next 6) = p
    refine css_asg 1 B (c_add (c_mul (c_var 1) (c_pow c_int c_int ⟨by decide, by decide, by decide⟩) (.inr (by decide))) (c_callM 0 F_law_draw (hr.mono (by decide)) rfl (d_cons (c_pow c_int c_int ⟨by decide, by decide, by decide⟩) d_nil) rfl (fun R h' => ⟨_, _, _, rfl, p.2, 10 ^ 6, rfl, rfl, by decide, by decide, h'⟩))) ?_
    refine css_nil ⟨.dat (.int (0 + (i : Nat))), ?_⟩
    show _ = [Sl.mut q (numGo (i + 1) _ _).2.ds, _, _]
    unfold numGo
    rw [hp]
    rfl
  · obtain ⟨a, rfl⟩ := hJ
    rw [rangeD_len]
    exact css_ret (c_var 1) ⟨_, rfl, hR⟩
end KK
end

section
set_option Elab.async false
set_option linter.all false
set_option maxRecDepth 100000
set_option maxHeartbeats 4000000
namespace KK
open PySem PySem.Spec PyProof.Rows L2 VL
abbrev s_law_digits : Stmt := topS 34
abbrev N_law_digits : List Str := ["coins", "number", "found", "left", "coin"]
theorem sc_law_digits : FnScope N_law_digits ["coins", "number"] (defScope s_law_digits) := ⟨rfl, rfl, rfl, by decide +kernel, rfl, by decide +kernel, by decide +kernel⟩
variable {P : Program} {w : World} {K : PySem.W.Frag} {mg : Str → Option Value} {base : Heap} {f aCoinError aBadNumber aBadPayment aBadCoins : Addr} {fd : FuncData}
def A_law_digits (ds : List D) (r : Res) : Prop := ∃ cs n, ds = [.tup (cs.map D.int), .int n] ∧ (∀ c ∈ cs, Dv c) ∧ cs.length ≤ 1000 ∧ r = .ok (.tup ((digitsOf cs n).map D.int))
theorem ok_law_digits (T : Blt mg) (Fu : Fun K "_law_digits" "_law_digits" s_law_digits f fd) (hb : Binds K fd ["coins", "number"] []) (hm : mg "_law_digits" = some (.ref f)) : FnV P w K mg base 1 "_law_digits" (detS A_law_digits) := by
  refine fn_pure (k := 0) Fu sc_law_digits hb hm (fun ds r ⟨d, n, e, _⟩ => by subst e; rfl) fun cdv A' outer s H E hr B ds r ⟨cs, n, e, hcs, hl, er⟩ => ?_
  subst e er
  have hlen : (cs.map D.int).length = cs.length := List.length_map _
  refine css_parN 2 3 B (n_lst d_nil (sz (by simp))) (c_var 1) (fun q => ?_)
  refine css_for (T := .nm 4) B (ci_tup (c_revT (c_var 0))) (tg_nm 4 B.nd)
    (fun i ρ => i ≤ cs.length ∧ ∃ a, ρ = [.dat (.tup (cs.map D.int)), .dat (.int n), .mut q ((digGo (cs.drop (cs.length - i)) n).1.reverse.map D.int), .dat (.int (digGo (cs.drop (cs.length - i)) n).2), a]) ⟨Nat.zero_le _, _, by rw [Nat.sub_zero, List.drop_length]; rfl⟩ (fun i d ρ hd hJ => ?_) (fun ρ hJ => ?_)
  · obtain ⟨_, a, rfl⟩ := hJ
    have hi : i < cs.length := by
      have := (List.getElem?_eq_some_iff.mp hd).1
      rw [List.length_reverse, hlen] at this
      exact this
    obtain ⟨k, hk⟩ : ∃ k, cs.length - i = k + 1 := ⟨cs.length - i - 1, by omega⟩
    rw [List.getElem?_reverse (by rw [hlen]; exact hi), hlen, show cs.length - 1 - i = k by omega, at_ints (at_getD (by omega : k < cs.length))] at hd
    cases hd
    have hdv := hcs _ (List.mem_of_getElem? (at_getD (by omega : k < cs.length)))
    have hd : cs.drop k = cs.getD k 0 :: cs.drop (k + 1) := by
      rw [List.drop_eq_getElem_cons (by omega : k < cs.length), List.getD_eq_getElem?_getD, List.getElem?_eq_getElem (by omega : k < cs.length)]; rfl
    rw [hk]
    refine ⟨_, .nm, ?_⟩
    refine css_append 2 (c_divW (c_var 3) (c_var 4) hdv) rfl rfl (szl (by rw [List.length_map, List.length_reverse, digGo_len, List.length_drop]; omega)) ?_
    refine css_asg 3 B (c_mod (c_intI T.int (c_var 3)) (c_var 4) hdv.1) ?_
    refine css_nil ⟨by omega, .dat (.int (cs.getD k 0)), ?_⟩
    rw [show cs.length - (i + 1) = k by omega, hd]
    show _ = [_, _, Sl.mut q (((digGo (cs.drop (k + 1)) n).2 / cs.getD k 0 :: (digGo (cs.drop (k + 1)) n).1).reverse.map D.int), Sl.dat (.int ((digGo (cs.drop (k + 1)) n).2 % cs.getD k 0)), _]
    rw [List.reverse_cons, List.map_append]
    rfl
  · obtain ⟨_, a, rfl⟩ := hJ
    rw [List.length_reverse, hlen, Nat.sub_self, List.drop_zero]
    refine css_ret (c_bor ?_ (c_tupL T.tuple (CN.ce (n_revL (c_var 2))))) ?_
    · rw [← List.map_reverse, List.reverse_reverse]; exact im_tup _
    · rw [← List.map_reverse, List.reverse_reverse]; rfl
end KK
end

section
set_option Elab.async false
set_option linter.all false
set_option maxRecDepth 100000
set_option maxHeartbeats 4000000
namespace KK
open PySem PySem.Spec PyProof.Rows L2 VL
abbrev s_law_no_coins : Stmt := topS 35
abbrev N_law_no_coins : List Str := ["hand", "coins", "at", "kind", "odd"]
theorem sc_law_no_coins : FnScope N_law_no_coins ["hand", "coins"] (defScope s_law_no_coins) := ⟨rfl, rfl, rfl, by decide +kernel, rfl, by decide +kernel, by decide +kernel⟩
variable {P : Program} {w : World} {K : PySem.W.Frag} {mg : Str → Option Value} {base : Heap} {f aCoinError aBadNumber aBadPayment aBadCoins : Addr} {fd : FuncData}
def NoC (aC : Addr) (none : D) (a : Int) : Prop := plT none = true ∧ ladRes aC none = .error ⟨aC, [("at", .int a)]⟩
def A_law_no_coins (aC : Addr) (cs ds : List D) (R : Res → List D → Prop) : Prop := ∃ (h : Hd) (l : List Int), cs = h.ds ∧ ds = [.tup (l.map D.int)] ∧ Lad l ∧ l.length ≤ 60 ∧ ∀ (x : D) (a : Int) (h' : Hd), NoC aC x a → R (.ok (.tup [x, .int a])) h'.ds
theorem ok_law_no_coins (T : Blt mg) (F_law_draw : FnV P w K mg base 1 "_law_draw" (mutS A_law_draw)) (F_law_any : FnV P w K mg base 2 "_law_any" (mutS A_law_any)) (F_law_top2 : FnV P w K mg base 1 "_law_top" (detS A_law_top2)) (F_law_deep : FnV P w K mg base 3 "_law_deep" (mutS A_law_deep)) (Fu : Fun K "_law_no_coins" "_law_no_coins" s_law_no_coins f fd) (hb : Binds K fd ["hand", "coins"] []) (hm : mg "_law_no_coins" = some (.ref f)) : FnV P w K mg base 4 "_law_no_coins" (mutS (A_law_no_coins aBadCoins)) := by
  refine fn_mut (k := 3) (fun cs ds R R' h ⟨hd, l, a, b, c, d, r⟩ => ⟨hd, l, a, b, c, d, fun x a h' h1 => h _ _ (r x a h' h1)⟩) Fu sc_law_no_coins hb hm (fun cs ds R ⟨hd, l, a, b, _⟩ => by subst b; rfl) fun cdv A' outer s H E hr B q cs ds R ⟨h, l, e1, e2, lad, hl8, hR⟩ => ?_
  subst e1 e2
  have el : (l.map D.int).length = l.length := List.length_map _
  have hne := lad.ne
  have b1 := Hd.draw_lt (h := h) (many := (l.length : Nat)) (by omega)
  generalize hat : h.draw (l.length : Nat) = av at b1
  obtain ⟨k, rfl⟩ := nat_of b1.1
  generalize hh1 : h.next (l.length : Nat) = h1
  have b2 := Hd.draw_lt (h := h1) (many := 4) (by decide)
  refine css_par 2 3 B (x := .int (k : Nat)) (d_cons ((c_callM 0 F_law_draw (hr.mono (by decide)) rfl (d_cons (c_lenT T.len (c_var 1)) d_nil) rfl (fun R h' => ⟨_, _, _, rfl, h, (l.length : Nat), rfl, by rw [el], by omega, by omega, h'⟩)).eq (by rw [hat])) (d_cons (c_callM 0 F_law_draw (hr.mono (by decide)) rfl (d_cons c_int d_nil) rfl (fun R h' => ⟨_, _, _, rfl, h.next (l.length : Nat), 4, rfl, rfl, by decide, by decide, h'⟩)) d_nil)) ?_
  rw [hh1]
  refine css_if (t_eqI (c_var 3) c_int) (fun hc => ?_) (fun hc => ?_)
  · generalize hh2 : h1.next 4 = h2
    have b8 := Hd.draw_lt (h := (deepF h2).2) (many := 8) (by decide)
    refine css_ret (c_tup (d_cons (c_callM 0 F_law_any (hr.mono (by decide)) rfl (d_cons (CN.ce (n_lst (d_cons c_non (d_cons c_int (d_cons (CN.ce (n_listT T.list (c_var 1))) (d_cons (c_tup d_nil (sz (by simp))) (d_cons c_str (d_cons c_dict0 (d_cons (c_repT (c_tup (d_cons c_int d_nil) (sz (by simp))) c_int (by simp) (by decide) (by simp)) (d_cons (CN.ce (n_lst (d_cons (c_callM 0 F_law_deep (hr.mono (by decide)) rfl d_nil rfl (fun R h' => ⟨_, _, _, rfl, h2, rfl, rfl, h'⟩)) d_nil) (sz (by simp)))) d_nil)))))))) (sz (by simp)))) d_nil) rfl (fun R h' => ⟨_, _, _, rfl, (deepF h2).2, _, rfl, rfl, by simp, by simp, h'⟩)) (d_cons (c_neg c_int) d_nil)) (sz (by simp))) ⟨_, rfl, hR _ _ _ ?_⟩
    have hm := getD_mem (l := [.non, .int 0, .lst (l.map D.int), .tup [], .str "1", .dic [], .tup (List.replicate (Int.toNat 61) [D.int 1]).flatten, .lst [(deepF h2).1]]) (k := ((deepF h2).2.draw 8).toNat) (by simp; omega)
    refine (show ∀ x, x ∈ ([.non, .int 0, .lst (l.map D.int), .tup [], .str "1", .dic [], .tup (List.replicate (Int.toNat 61) [D.int 1]).flatten, .lst [(deepF h2).1]] : List D) → NoC aBadCoins x (-1) from fun x hx => ?_) _ hm
    simp only [List.mem_cons, List.not_mem_nil, or_false] at hx
    rcases hx with rfl | rfl | rfl | rfl | rfl | rfl | rfl | rfl <;> exact ⟨by first | rfl | decide +kernel, by first | rfl | decide +kernel⟩
  · refine css_nil ?_
    generalize hh2 : h1.next 4 = h2
    have hk : k < l.length := by omega
    obtain ⟨pv, hpv, hp0⟩ : ∃ pv : Int, atI (l.map D.int) ((k : Nat) - 1 : Int) = some (.int pv) ∧ (k ≠ 0 → pv = l.getD (k - 1) 0) := by
      by_cases e : k = 0
      · subst e
        exact ⟨_, at_last (by rw [el]; exact at_ints (lad.at (k := l.length - 1) (by omega)).1), fun z => absurd rfl z⟩
      · exact ⟨_, atI_i (k := k - 1) (by omega) (at_ints (lad.at (k := k - 1) (by omega)).1), fun _ => rfl⟩
    have hcv : atI (l.map D.int) ((k : Nat) : Int) = some (.int (l.getD k 0)) := atI_i rfl (at_ints (lad.at hk).1)
    refine css_asg 4 B (CN.ce (n_lst (d_cons c_int (d_cons (c_neg c_int) (d_cons c_non (d_cons c_bl (d_cons c_str (d_cons (c_tup (d_cons c_int d_nil) (sz (by simp))) (d_cons (c_ite (t_gt (c_ixT (c_var 1) (c_sub (c_var 2) c_int) hpv) c_int) (fun _ => (c_add (c_ixT (c_var 1) (c_var 2) hcv) c_int)) (fun _ => (c_ixT (c_var 1) (c_sub (c_var 2) c_int) hpv))) (d_cons (c_mul (c_call F_law_top2 (hr.mono (by decide)) (d_cons c_int d_nil) (fun R h' => ⟨_, _, rfl, ⟨rfl, rfl⟩, h'⟩)) c_int (.inr (by decide))) d_nil)))))))) (sz (by simp)))) ?_
    have hfin : ∀ x : D, plD x = true → badX (if k = 0 then none else some (l.getD (k - 1) 0)) x = true → NoC aBadCoins (.tup ((l.map D.int).set k x)) (k : Nat) := fun x h1 h2 => ⟨pl_set h1, ladRes_set lad (by omega) hk h2 aBadCoins⟩
    refine css_if (t_eqI (c_var 2) c_int) (fun hc => ?_) (fun hc => ?_)
    · have hk0 : k = 0 := by have := of_decide_eq_true hc; omega
      have b7 := Hd.draw_lt (h := h2) (many := 7) (by decide)
      refine css_ret (c_tup (d_cons ((c_catT (c_tup (d_cons (c_callM 0 F_law_any (hr.mono (by decide)) rfl (d_cons (CN.ce (n_catL (CN.ce (n_slL (c_var 4) o_none (o_some c_int))) (CN.ce (n_lst (d_cons c_int d_nil) (sz (by simp)))) (sz (by rw [show (6 : Int) = ((6 : Nat) : Int) from rfl, cutD_take]; simp)))) d_nil) rfl (fun R h' => ⟨_, _, _, rfl, h2, _, rfl, rfl, by simp, by rw [show (6 : Int) = ((6 : Nat) : Int) from rfl, cutD_take]; simp, h'⟩)) d_nil) (sz (by simp))) (c_slT (c_var 1) (o_some c_int) o_none) (sz (by rw [show (1 : Int) = ((1 : Nat) : Int) from rfl, cutD_drop, List.length_drop, el]; simp; omega)))) (d_cons c_int d_nil)) (sz (by simp))) ⟨_, rfl, ?_⟩
      subst hk0
      obtain ⟨c0, cs0, rfl⟩ : ∃ c cs, l = c :: cs := List.exists_cons_of_length_pos (by omega)
      rw [show (6 : Int) = ((6 : Nat) : Int) from rfl, cutD_take, show (1 : Int) = ((1 : Nat) : Int) from rfl, cutD_drop]
      have hm := getD_mem (l := [.int 0, .int (-1), .non, .bl true, .str "1", .tup [.int 1], .int 2]) (k := (h2.draw 7).toNat) (by simp; omega)
      have hx : ∀ x, x ∈ ([.int 0, .int (-1), .non, .bl true, .str "1", .tup [.int 1], .int 2] : List D) → plD x = true ∧ badX none x = true := fun x hx => by
        simp only [List.mem_cons, List.not_mem_nil, or_false] at hx
        rcases hx with rfl | rfl | rfl | rfl | rfl | rfl | rfl <;> exact ⟨rfl, by first | rfl | decide +kernel⟩
      exact hR _ 0 _ (hfin _ (hx _ hm).1 (hx _ hm).2)
    · have hk0 : k ≠ 0 := by have := of_decide_eq_false hc; omega
      have hp := hp0 hk0
      refine css_nil ?_
      have b9 := Hd.draw_lt (h := h2) (many := 9) (by decide)
      have hu := lad.up (k - 1) (by omega)
      rw [show k - 1 + 1 = k by omega] at hu
      have hpos := (lad.at (k := k - 1) (by omega)).2
      refine css_ret (c_tup (d_cons (c_catT (c_catT (c_slT (c_var 1) o_none (o_some (c_var 2))) (c_tup (d_cons (c_callM 0 F_law_any (hr.mono (by decide)) rfl (d_cons (CN.ce (n_catL (c_var 4) (CN.ce (n_lst (d_cons (c_ixT (c_var 1) (c_sub (c_var 2) c_int) hpv) d_nil) (sz (by simp)))) (sz (by simp)))) d_nil) rfl (fun R h' => ⟨_, _, _, rfl, h2, _, rfl, rfl, by simp, by simp, h'⟩)) d_nil) (sz (by simp))) (sz (by rw [cutD_take, List.length_take]; simp; omega))) (c_slT (c_var 1) (o_some (c_add (c_var 2) c_int)) o_none)
        (sz (by rw [cutD_take, show ((k : Nat) : Int) + 1 = ((k + 1 : Nat) : Int) from rfl, cutD_drop, List.length_append, List.length_take, List.length_drop, el]; simp; omega))) (d_cons (c_var 2) d_nil)) (sz (by simp))) ⟨_, rfl, ?_⟩
      rw [cutD_take, show ((k : Nat) : Int) + 1 = ((k + 1 : Nat) : Int) from rfl, cutD_drop, List.append_assoc]
      have hm := getD_mem (l := [.int 0, .int (-1), .non, .bl true, .str "1", .tup [.int 1], if decide (1 < pv) = true then .int (l.getD k 0 + 1) else .int pv, .int (c_MOST_COIN * 10), .int pv]) (k := (h2.draw 9).toNat) (by simp; omega)
      have hx : ∀ x, x ∈ ([.int 0, .int (-1), .non, .bl true, .str "1", .tup [.int 1], if decide (1 < pv) = true then .int (l.getD k 0 + 1) else .int pv, .int (c_MOST_COIN * 10), .int pv] : List D) → plD x = true ∧ badX (some pv) x = true := fun x hx => by
        have bp : badX (some pv) (.int pv) = true := by
          unfold badX
          rw [Bool.not_eq_true', Bool.and_eq_false_iff]
          right
          rw [Bool.and_eq_false_iff]
          left
          exact decide_eq_false (by omega)
        simp only [List.mem_cons, List.not_mem_nil, or_false] at hx
        rcases hx with rfl | rfl | rfl | rfl | rfl | rfl | rfl | rfl | rfl
        · exact ⟨rfl, rfl⟩
        · exact ⟨rfl, rfl⟩
        · exact ⟨rfl, rfl⟩
        · exact ⟨rfl, rfl⟩
        · exact ⟨rfl, rfl⟩
        · exact ⟨rfl, rfl⟩
        · by_cases h1 : 1 < pv
          · rw [if_pos (decide_eq_true h1)]
            refine ⟨rfl, ?_⟩
            unfold badX
            rw [Bool.not_eq_true', Bool.and_eq_false_iff]
            right
            rw [Bool.and_eq_false_iff]
            right
            refine decide_eq_false ?_
            rw [hp, Int.add_emod, hu.2, Int.zero_add, Int.emod_emod, Int.emod_eq_of_lt (by decide) (by omega)]
            decide
          · rw [if_neg (by simpa using h1)]
            exact ⟨rfl, bp⟩
        · refine ⟨rfl, ?_⟩
          unfold badX
          rw [Bool.not_eq_true', Bool.and_eq_false_iff, Bool.and_eq_false_iff]
          left; right
          refine decide_eq_false ?_
          unfold c_MOST_COIN; decide +kernel
        · exact ⟨rfl, bp⟩
      have hset : ∀ x : D, (l.map D.int).set k x = (l.map D.int).take k ++ ([x] ++ (l.map D.int).drop (k + 1)) := fun x => List.set_eq_take_append_cons_drop.trans (if_pos (by rw [el]; exact hk))
      have := hR _ (k : Nat) (h2.next 9) (hfin _ (hx _ hm).1 (by rw [if_neg hk0, ← hp]; exact (hx _ hm).2))
      rw [hset] at this
      exact this
end KK
end

section
set_option Elab.async false
set_option linter.all false
set_option maxRecDepth 100000
set_option maxHeartbeats 4000000
namespace KK
open PySem PySem.Spec PyProof.Rows L2 VL VLH LamX
abbrev s_law_word : Stmt := topS 36
abbrev N_law_word : List Str := ["call", "error", "some", "said", "word", "is_one"]
theorem sc_law_word : FnScope N_law_word ["call"] (defScope s_law_word) := ⟨rfl, rfl, rfl, by decide +kernel, rfl, by decide +kernel, by decide +kernel⟩
open L2H (HotC)
/-- what is asked of the classes -/
structure Wt (K : PySem.W.Frag) (mg : Str → Option Value) (aCoinError aBadCoins aBadNumber aBadPayment : Addr) : Prop where
  isinstance : mg "isinstance" = none
  len : mg "len" = none
  ce : mg "CoinError" = some (.ref aCoinError)
  ve : mg "ValueError" = none
  g_BadCoins : mg "BadCoins" = some (.ref aBadCoins)
  x_BadCoins : PySem.W.exmOne K (.ref aBadCoins) (.ref aCoinError) = some true
  v_BadCoins : PySem.W.kitOne K (.ref aBadCoins) (.type "ValueError") = some true
  e_BadCoins : ExcD K aBadCoins
  k_BadCoins_BadCoins : PySem.W.kitOne K (.ref aBadCoins) (.ref aBadCoins) = some true
  k_BadCoins_BadNumber : PySem.W.kitOne K (.ref aBadCoins) (.ref aBadNumber) = some false
  k_BadCoins_BadPayment : PySem.W.kitOne K (.ref aBadCoins) (.ref aBadPayment) = some false
  g_BadNumber : mg "BadNumber" = some (.ref aBadNumber)
  x_BadNumber : PySem.W.exmOne K (.ref aBadNumber) (.ref aCoinError) = some true
  v_BadNumber : PySem.W.kitOne K (.ref aBadNumber) (.type "ValueError") = some true
  e_BadNumber : ExcD K aBadNumber
  k_BadNumber_BadCoins : PySem.W.kitOne K (.ref aBadNumber) (.ref aBadCoins) = some false
  k_BadNumber_BadNumber : PySem.W.kitOne K (.ref aBadNumber) (.ref aBadNumber) = some true
  k_BadNumber_BadPayment : PySem.W.kitOne K (.ref aBadNumber) (.ref aBadPayment) = some false
  g_BadPayment : mg "BadPayment" = some (.ref aBadPayment)
  x_BadPayment : PySem.W.exmOne K (.ref aBadPayment) (.ref aCoinError) = some true
  v_BadPayment : PySem.W.kitOne K (.ref aBadPayment) (.type "ValueError") = some true
  e_BadPayment : ExcD K aBadPayment
  k_BadPayment_BadCoins : PySem.W.kitOne K (.ref aBadPayment) (.ref aBadCoins) = some false
  k_BadPayment_BadNumber : PySem.W.kitOne K (.ref aBadPayment) (.ref aBadNumber) = some false
  k_BadPayment_BadPayment : PySem.W.kitOne K (.ref aBadPayment) (.ref aBadPayment) = some true
  fC : XfC K aBadCoins
  nC : PySem.W.findIn K (.ref aBadCoins) "at" = some none
def fstD : D → D
  | .tup [x, _] => x
  | _ => .non
def sndB : D → Bool
  | .tup [_, .bl b] => b
  | _ => false
/-- the words of a class -/
def saidD (k1 k2 k3 : Bool) : List D := (([.tup [.str "coins", .bl k1], .tup [.str "number", .bl k2], .tup [.str "payment", .bl k3]] : List D).filter sndB).map fstD
def suiteW : List Stmt := match defBody s_law_word with
  | .Try _ [.ExceptHandler _ _ b _] _ _ _ :: _ => b
  | _ => []
section
variable {K : PySem.W.Frag} {mg : Str → Option Value} {aCoinError aBadCoins aBadNumber aBadPayment : Addr}
/-- the context of _law_word -/
abbrev cxw (P : Program) (w : World) (K : PySem.W.Frag) (mg : Str → Option Value) (base : Heap) (g : Addr) (cdg : Value) (A : Around) (outer : List Env) (s : Shared) (H : Hp) : Cx := (cxOf C8.CX0 P w K mg base N_law_word "_law_word" (defScope s_law_word) g cdg A outer s H C8.E0).nox
theorem suite_ok {P : Program} {w : World} {base : Heap} {g : Addr} {cdg : Value} {A : Around} {outer : List Env} {s : Shared} {H : Hp} (T : Wt K mg aCoinError aBadCoins aBadNumber aBadPayment) {aE D : Addr} {oe : Obj} {dd : Option Addr} {fs : List (Str × VL.D)} {pn : List (Addr × Obj)} {k1 k2 k3 : Bool} {dW : VL.D}
    (hz : L2N.Zn (.ref D) dd oe) (hf : ∃ vs, oe.data = .fields vs) (hE : ExcD K D) (h1 : PySem.W.kitOne K (.ref D) (.ref aBadCoins) = some k1) (h2 : PySem.W.kitOne K (.ref D) (.ref aBadNumber) = some k2) (h3 : PySem.W.kitOne K (.ref D) (.ref aBadPayment) = some k3) (hv : PySem.W.kitOne K (.ref D) (.type "ValueError") = some true)
    (hd : (k1 = true ∧ k2 = false ∧ k3 = false ∧ D = aBadCoins ∧ ∃ d dx, dd = some dx ∧ fs = [(("at" : Str), d)] ∧ dW = .tup [.str "coins", d]) ∨ (k1 = false ∧ k2 = true ∧ k3 = false ∧ dW = .str "number") ∨ (k1 = false ∧ k2 = false ∧ k3 = true ∧ dW = .str "payment")) :
    CSs ((cxw P w K mg base g cdg A outer s H).suite aE ((aE, oe) :: pn)) [.un, .dat (exD aE dd fs), .un, .un, .un, .un] suiteW { nx := fun _ => False, rt := fun d _ => d = dW } := by
  have nd : N_law_word.Nodup := sc_law_word.nd
  have B : Bdn ((cxw P w K mg base g cdg A outer s H).suite aE ((aE, oe) :: pn)) := ⟨nd⟩
  have hot : HotC ((cxw P w K mg base g cdg A outer s H).suite aE ((aE, oe) :: pn)) := let ⟨vs, hvs⟩ := hf; ⟨(aE, oe), ⟨rfl, vs, hvs, hz.2.2 vs hvs⟩, List.mem_cons_self⟩
  refine css_asgN 2 B (n_lst d_nil (sz (by simp))) fun q => ?_
  refine css_append 2 (c_tup (d_cons c_str (d_cons (c_isD List.mem_cons_self hE hz.zc hf rel_adr T.isinstance (c_var 1) (c_gref T.g_BadCoins) h1) d_nil)) (sz (by simp))) rfl rfl (szl (by simp)) ?_
  refine css_append 2 (c_tup (d_cons c_str (d_cons (c_isD List.mem_cons_self hE hz.zc hf rel_adr T.isinstance (c_var 1) (c_gref T.g_BadNumber) h2) d_nil)) (sz (by simp))) rfl rfl (szl (by simp)) ?_
  refine css_append 2 (c_tup (d_cons c_str (d_cons (c_isD List.mem_cons_self hE hz.zc hf rel_adr T.isinstance (c_var 1) (c_gref T.g_BadPayment) h3) d_nil)) (sz (by simp))) rfl rfl (szl (by simp)) ?_
  refine css_freeze (i := 2) rfl ?_
  refine css_lcF 3 (ds := saidD k1 k2 k3) (l_lcH (T := .tp [.nm 4, .nm 5]) fstD sndB (c_var 2) [("word", 4), ("is_one", 5)] hot nd ?ok ?hg ?hT ?hn ?hs (szl (by simp))) ?_
  case ok => exact blkOk_by (N := N_law_word) (sc := defScope s_law_word) (by decide +kernel)
  case hg => exact fun pins s H' C cl fp => tg_tpH (let ⟨vs, hvs⟩ := hf; ⟨(aE, oe), ⟨rfl, vs, hvs, hz.2.2 vs hvs⟩, List.mem_append_left _ List.mem_cons_self⟩) (tgs_cons (tg_nm 4 nd) (tgs_cons (tg_nm 5 nd) tgs_nil))
  case hT => decide
  case hn => exact fun k p ds hk h => by rcases k with _ | _ | _ | _ | _ | _ | k <;> cases h
  case hs =>
    intro i d hd
    have : ∃ (x : VL.D) (b : Bool), d = .tup [x, .bl b] := by
      rcases i with _ | _ | _ | i
      · cases hd; exact ⟨_, _, rfl⟩
      · cases hd; exact ⟨_, _, rfl⟩
      · cases hd; exact ⟨_, _, rfl⟩
      · cases hd
    obtain ⟨x, b, rfl⟩ := this
    refine ⟨_, .tp (.cons .nm (.cons .nm .nil)), ?_, fun pins s H' C cl fp => ?_, fun _ pins s H' C cl fp => ?_⟩
    · exact fun k p es h => by rcases k with _ | _ | _ | _ | _ | _ | k <;> cases h
    · refine (t_w (w_and (t_val (c_var 5)) (fun _ => w_and1 (t_val (c_isD (List.mem_append_left _ List.mem_cons_self) hE hz.zc hf rel_ty T.isinstance (c_var 1) (c_bty "ValueError" T.ve) hv))))).eq ?_
      exact Bool.and_true _
    · exact c_var 4
  rcases hd with ⟨rfl, rfl, rfl, rfl, d, dx, rfl, rfl, rfl⟩ | ⟨rfl, rfl, rfl, rfl⟩ | ⟨rfl, rfl, rfl, rfl⟩
  · refine css_if (t_neI (c_lenL T.len (c_var 3)) c_int) (fun hc => ?_) (fun hc => ?_)
    · exact absurd hc (by decide)
    · refine css_nil ?_
      exact css_ret (c_if (t_eqS (c_ixL (c_var 3) c_int rfl) c_str) (fun _ => c_tup (d_cons c_str (d_cons (c_xf T.fC T.nC hz.zc hf (c_var 1) rfl) d_nil)) (sz (by simp))) (fun hc => absurd hc (by decide))) rfl
  · refine css_if (t_neI (c_lenL T.len (c_var 3)) c_int) (fun hc => ?_) (fun hc => ?_)
    · exact absurd hc (by decide)
    · refine css_nil ?_
      exact css_ret (c_if (t_eqS (c_ixL (c_var 3) c_int rfl) c_str) (fun hc => absurd hc (by decide)) (fun _ => c_ixL (c_var 3) c_int rfl)) rfl
  · refine css_if (t_neI (c_lenL T.len (c_var 3)) c_int) (fun hc => ?_) (fun hc => ?_)
    · exact absurd hc (by decide)
    · refine css_nil ?_
      exact css_ret (c_if (t_eqS (c_ixL (c_var 3) c_int rfl) c_str) (fun hc => absurd hc (by decide)) (fun _ => c_ixL (c_var 3) c_int rfl)) rfl
end
/-- the word of a result -/
inductive Worded (aBadCoins aBadNumber aBadPayment : Addr) : Res → D → Prop
  | ok {d : D} : immut d = true → Worded aBadCoins aBadNumber aBadPayment (.ok d) (.str "let")
  | coins {a : Int} : Worded aBadCoins aBadNumber aBadPayment (.error ⟨aBadCoins, [("at", .int a)]⟩) (.tup [.str "coins", .int a])
  | number : Worded aBadCoins aBadNumber aBadPayment (.error ⟨aBadNumber, []⟩) (.str "number")
  | payment : Worded aBadCoins aBadNumber aBadPayment (.error ⟨aBadPayment, []⟩) (.str "payment")
end KK
end

section
set_option Elab.async false
set_option linter.all false
set_option maxRecDepth 100000
set_option maxHeartbeats 4000000
namespace KK
open PySem PySem.Spec PyProof.Rows L2 VL
abbrev s_law_carried : Stmt := topS 37
abbrev N_law_carried : List Str := ["coins", "counts", "found", "carries", "more", "at", "count", "ratio"]
theorem sc_law_carried : FnScope N_law_carried ["coins", "counts"] (defScope s_law_carried) := ⟨rfl, rfl, rfl, by decide +kernel, rfl, by decide +kernel, by decide +kernel⟩
variable {P : Program} {w : World} {K : PySem.W.Frag} {mg : Str → Option Value} {base : Heap} {f aCoinError aBadNumber aBadPayment aBadCoins : Addr} {fd : FuncData}
def A_law_carried (ds : List D) (r : Res) : Prop := ∃ (cs xs : List Int), ds = [.tup (cs.map D.int), .tup (xs.map D.int)] ∧ Lad cs ∧ cs.length ≤ 60 ∧ xs.length = cs.length ∧ r = .ok (pairT (carF cs xs) (carC cs xs))
theorem ok_law_carried (T : Blt mg) (Fu : Fun K "_law_carried" "_law_carried" s_law_carried f fd) (hb : Binds K fd ["coins", "counts"] []) (hm : mg "_law_carried" = some (.ref f)) : FnV P w K mg base 1 "_law_carried" (detS A_law_carried) := by
  refine fn_pure (k := 0) Fu sc_law_carried hb hm (fun ds r ⟨d, n, e, _⟩ => by subst e; rfl) fun cdv A' outer s H E hr B ds r ⟨cs, xs, e, lad, hl60, hxl, er⟩ => ?_
  subst e er
  have el : (cs.map D.int).length = cs.length := List.length_map _
  have hn := lad.ne
  have el2 : (xs.map D.int).length = xs.length := List.length_map _
  refine css_par3L 2 3 4 B (n_lst d_nil (sz (by simp))) lit0 (fun q p => ?_)
  refine css_for (T := .tp [.nm 5, .nm 6]) B (ci_enumT T.enumerate (c_var 1)) (tg_tp rfl (tgs_cons (tg_nm 5 B.nd) (tgs_cons (tg_nm 6 B.nd) tgs_nil)))
    (fun i ρ => i ≤ cs.length ∧ ∃ a b d, ρ = [.dat (.tup (cs.map D.int)), .dat (.tup (xs.map D.int)), .mut q (((List.range i).map (fndN cs xs)).map D.int), .mut p (((List.range i).map (hereN cs xs)).map D.int), .dat (.int (hereN cs xs (min i (cs.length - 1)))), a, b, d])
    ⟨Nat.zero_le _, _, _, _, by rw [show min 0 (cs.length - 1) = 0 by omega]; rfl⟩ (fun i d ρ hd hJ => ?_) (fun ρ hJ => ?_)
  · obtain ⟨x, hxi, rfl⟩ := enumD_inv hd
    obtain ⟨_, a, b, d, rfl⟩ := hJ
    have hi : i < cs.length := by
      have := (List.getElem?_eq_some_iff.mp hxi).1
      omega
    rw [at_ints (at_getD (by omega : i < xs.length))] at hxi
    cases hxi
    rw [show min i (cs.length - 1) = i by omega]
    refine ⟨_, .tp (.cons .nm (.cons .nm .nil)), ?_⟩
    refine css_append 3 (c_var 4) rfl rfl (szl (by rw [List.length_map, List.length_map, List.length_range]; omega)) ?_
    refine css_asg 6 B (c_add (c_var 6) (c_var 4)) ?_
    refine css_if (t_lt (c_add (c_var 5) c_int) (c_lenT T.len (c_var 0))) (fun hc => ?_) (fun hc => ?_)
    · have hc : i + 1 < cs.length := by rw [el] at hc; have := of_decide_eq_true hc; omega
      have a1 : atI (cs.map D.int) ((i : Nat) + 1 : Int) = some (.int (cs.getD (i + 1) 0)) := atI_i (k := i + 1) (by omega) (at_ints (lad.at hc).1)
      have a2 : atI (cs.map D.int) ((i : Nat) : Int) = some (.int (cs.getD i 0)) := atI_i (k := i) rfl (at_ints (lad.at hi).1)
      obtain ⟨_, r2, r3⟩ := lad.rat hc
      refine css_asg 7 B (d := .int (rat cs i)) (c_divW (c_ixT (c_var 0) (c_add (c_var 5) c_int) a1) (c_ixT (c_var 0) (c_var 5) a2) (dv_of (lad.at hi).2)) ?_
      refine css_asg 4 B (c_divW (c_var 6) (c_var 7) (dv_of ⟨by omega, r3⟩)) ?_
      refine css_asg 6 B (c_mod (c_intI T.int (c_var 6)) (c_var 7) (by omega)) ?_
      refine css_nil ?_
      refine css_append 2 (c_var 6) rfl rfl (szl (by rw [List.length_map, List.length_map, List.length_range]; omega)) ?_
      refine css_nil ⟨hi, .dat (.int (i : Nat)), .dat (.int (fndN cs xs i)), .dat (.int (rat cs i)), ?_⟩
      have ef : fndN cs xs i = (xs.getD i 0 + hereN cs xs i) % rat cs i := by unfold fndN; rw [if_pos hc]
      rw [show min (i + 1) (cs.length - 1) = i + 1 by omega, map_succ (hereN cs xs) D.int i, map_succ (fndN cs xs) D.int i, ef]
      rfl
    · have hc : i + 1 = cs.length := by rw [el] at hc; have := of_decide_eq_false hc; omega
      refine css_nil ?_
      refine css_append 2 (c_var 6) rfl rfl (szl (by rw [List.length_map, List.length_map, List.length_range]; omega)) ?_
      refine css_nil ⟨hi, .dat (.int (i : Nat)), .dat (.int (fndN cs xs i)), d, ?_⟩
      have ef : fndN cs xs i = xs.getD i 0 + hereN cs xs i := by unfold fndN; rw [if_neg (by omega)]
      rw [show min (i + 1) (cs.length - 1) = i by omega, map_succ (hereN cs xs) D.int i, map_succ (fndN cs xs) D.int i, ef]
      rfl
  · obtain ⟨_, a, b, d, rfl⟩ := hJ
    rw [enumD_len, el2, hxl]
    exact css_ret (c_tup (d_cons (c_bor (im_tup _) (c_tupL T.tuple (c_var 2))) (d_cons (c_bor (im_tup _) (c_tupL T.tuple (c_var 3))) d_nil)) (sz (by simp))) rfl
end KK
end

section
set_option Elab.async false
set_option linter.all false
set_option maxRecDepth 100000
set_option maxHeartbeats 4000000
namespace KK
open PySem PySem.Spec PyProof.Rows L2 VL
abbrev s_law_counts : Stmt := topS 38
abbrev N_law_counts : List Str := ["hand", "coins", "kind", "ratios", "wide", "coin", "more", "ratio"]
theorem sc_law_counts : FnScope N_law_counts ["hand", "coins"] (defScope s_law_counts) := ⟨rfl, rfl, rfl, by decide +kernel, rfl, by decide +kernel, by decide +kernel⟩
variable {P : Program} {w : World} {K : PySem.W.Frag} {mg : Str → Option Value} {base : Heap} {f aCoinError aBadNumber aBadPayment aBadCoins : Addr} {fd : FuncData}
def cntGo : Nat → Hd → List Int × Hd
  | 0, h => ([], h)
  | k + 1, h => let p := cntGo k h; let q := numF p.2; (p.1 ++ [q.1 * q.2.draw 2], q.2.next 2)
def cntsF (cs : List Int) (h : Hd) : List Int × Hd :=
  if h.draw 4 = 0 then (digitsOf cs (numF (h.next 4)).1, (numF (h.next 4)).2) else
  if h.draw 4 = 1 then ((List.range (cs.length - 1)).map (fun k => rat cs k - 1) ++ [(h.next 4).draw 9], (h.next 4).next 9) else
  if h.draw 4 = 2 then drawsOf ((h.next 4).next 3) (pickI [2, 9, 1000] (h.next 4)) cs.length else cntGo cs.length ((h.next 4).next 3)
theorem cntGo_len : ∀ k h, (cntGo k h).1.length = k
  | 0, _ => rfl
  | k + 1, h => by
    show ((cntGo k h).1 ++ [_]).length = _
    rw [List.length_append, cntGo_len k h]; rfl
def M195 : Int := 10 ^ 195
theorem M195_pos : (1000 : Int) ≤ M195 ∧ c_MOST_COIN ≤ M195 ∧ M195 * 2 ≤ c_MOST_COIN * c_MOST_COIN := by unfold M195 c_MOST_COIN; decide +kernel
theorem cntGo_in : ∀ k h, ∀ x ∈ (cntGo k h).1, 0 ≤ x ∧ x ≤ M195
  | 0, h, x, hx => by cases hx
  | k + 1, h, x, hx => by
    rcases List.mem_append.mp (show x ∈ (cntGo k h).1 ++ [(numF (cntGo k h).2).1 * (numF (cntGo k h).2).2.draw 2] from hx) with hx | hx
    · exact cntGo_in k h x hx
    · rw [List.mem_singleton] at hx
      have h1 := numF_in (cntGo k h).2
      have h2 := Hd.draw_lt (h := (numF (cntGo k h).2).2) (many := 2) (by decide)
      have h3 : (numF (cntGo k h).2).2.draw 2 = 0 ∨ (numF (cntGo k h).2).2.draw 2 = 1 := by omega
      have h4 : (10 : Int) ^ 195 = M195 := rfl
      rw [h4] at h1
      rcases h3 with e | e
      · rw [e, Int.mul_zero] at hx
        omega
      · rw [e, Int.mul_one] at hx
        omega
theorem wide_in (h : Hd) : 0 < pickI [2, 9, 1000] h ∧ pickI [2, 9, 1000] h ≤ 1000 := by
  have := pickI_mem (ns := [2, 9, 1000]) (h := h) (by simp)
  simp only [List.mem_cons, List.not_mem_nil, or_false] at this
  omega
theorem cntsF_in {cs : List Int} (l : Lad cs) (h : Hd) : (cntsF cs h).1.length = cs.length ∧ ∀ x ∈ (cntsF cs h).1, 0 ≤ x ∧ x ≤ M195 := by
  have hn := l.ne
  have hM := M195_pos
  unfold cntsF
  by_cases h0 : h.draw 4 = 0
  · rw [if_pos h0]
    have h1 := numF_in (h.next 4)
    have h4 : (10 : Int) ^ 195 = M195 := rfl
    rw [h4] at h1
    refine ⟨digitsOf_len _ _, fun x hx => ?_⟩
    have := (digGo_pos cs (numF (h.next 4)).1 (fun c hc => (l.pos c hc).1) h1.1).1 x hx
    omega
  · rw [if_neg h0]
    by_cases h1 : h.draw 4 = 1
    · rw [if_pos h1]
      refine ⟨by rw [List.length_append, List.length_map, List.length_range]; simp; omega, fun x hx => ?_⟩
      rcases List.mem_append.mp hx with hx | hx
      · obtain ⟨k, hk, rfl⟩ := List.mem_map.mp hx
        rw [List.mem_range] at hk
        have := (l.rat (k := k) (by omega)).2
        omega
      · rw [List.mem_singleton] at hx
        have := Hd.draw_lt (h := h.next 4) (many := 9) (by decide)
        omega
    · rw [if_neg h1]
      by_cases h2 : h.draw 4 = 2
      · rw [if_pos h2]
        have hw := wide_in (h.next 4)
        refine ⟨drawsOf_len _ _ _, fun x hx => ?_⟩
        have := drawsOf_in _ hw.1 _ x hx
        omega
      · rw [if_neg h2]
        exact ⟨cntGo_len _ _, cntGo_in _ _⟩
def A_law_counts (cs ds : List D) (R : Res → List D → Prop) : Prop := ∃ (h : Hd) (l : List Int), cs = h.ds ∧ ds = [.tup (l.map D.int)] ∧ Lad l ∧ l.length ≤ 60 ∧ R (.ok (.tup ((cntsF l h).1.map D.int))) (cntsF l h).2.ds
theorem ok_law_counts (T : Blt mg) (F_law_draw : FnV P w K mg base 1 "_law_draw" (mutS A_law_draw)) (F_law_any : FnV P w K mg base 2 "_law_any" (mutS A_law_any)) (F_law_number : FnV P w K mg base 3 "_law_number" (mutS A_law_number)) (F_law_digits : FnV P w K mg base 1 "_law_digits" (detS A_law_digits)) (Fu : Fun K "_law_counts" "_law_counts" s_law_counts f fd) (hb : Binds K fd ["hand", "coins"] []) (hm : mg "_law_counts" = some (.ref f)) : FnV P w K mg base 4 "_law_counts" (mutS A_law_counts) := by
  refine fn_mut (k := 3) (fun cs ds R R' h ⟨hd, l, a, b, c, d, r⟩ => ⟨hd, l, a, b, c, d, h _ _ r⟩) Fu sc_law_counts hb hm (fun cs ds R ⟨hd, l, a, b, _⟩ => by subst b; rfl) fun cdv A' outer s H E hr B q cs ds R ⟨h, l, e1, e2, lad, hl60, hR⟩ => ?_
  subst e1 e2
  have el : (l.map D.int).length = l.length := List.length_map _
  have hne := lad.ne
  unfold cntsF at hR
  refine css_asg 2 B (c_callM 0 F_law_draw (hr.mono (by decide)) rfl (d_cons c_int d_nil) rfl (fun R h' => ⟨_, _, _, rfl, h, 4, rfl, rfl, by decide, by decide, h'⟩)) ?_
  refine css_if (t_eqI (c_var 2) c_int) (fun hc => ?_) (fun hc => ?_)
  · have hc := of_decide_eq_true hc
    rw [if_pos hc] at hR
    refine css_ret (c_call F_law_digits (hr.mono (by decide)) (d_cons (c_var 1) (d_cons (c_callM 0 F_law_number (hr.mono (by decide)) rfl d_nil rfl (fun R h' => ⟨_, _, _, rfl, h.next 4, rfl, rfl, h'⟩)) d_nil)) (fun R h' => ⟨_, _, rfl, ⟨l, _, rfl, fun c hc => dv_of (lad.pos c hc), by omega, rfl⟩, h'⟩)) ⟨_, rfl, hR⟩
  have hc0 := of_decide_eq_false hc
  rw [if_neg hc0] at hR
  refine css_nil ?_
  have et : cutD (l.map D.int) (some 1) none = (l.drop 1).map D.int := by rw [show (1 : Int) = ((1 : Nat) : Int) from rfl, cutD_drop, List.map_drop]
  refine css_lcF 3 (ds := (List.range (l.length - 1)).map fun k => D.int (rat l k)) ((l_lc0 (T := .tp [.nm 5, .nm 6]) (fun d => match d with | .tup [.int c, .int m] => .int (m / c) | _ => .non) (ci_zipT T.zip (c_var 1) (CE.eq (c_slT (c_var 1) (o_some c_int) o_none) (congrArg D.tup et))) [("coin", 5), ("more", 6)] B (blkOk_by (N := N_law_counts) (sc := defScope s_law_counts) (by decide +kernel))
      (fun _ _ _ _ _ => tg_tp rfl (tgs_cons (tg_nm 5 B.nd) (tgs_cons (tg_nm 6 B.nd) tgs_nil))) (by decide) (fun k p ds hk h => by simp at hk; rcases hk with rfl | rfl <;> cases h) (fun i d hd => ?_) ?_).eq ?_) ?_
  · obtain ⟨x, y, h1, h2, rfl⟩ := zipD_inv hd
    obtain ⟨u, hu, rfl⟩ := List.mem_map.mp (List.mem_of_getElem? h1)
    obtain ⟨v, hv, rfl⟩ := List.mem_map.mp (List.mem_of_getElem? h2)
    refine ⟨_, .tp (.cons .nm (.cons .nm .nil)), fun k p es h => ?_, fun _ _ _ _ _ => c_divW (c_var 6) (c_var 5) (dv_of (lad.pos u hu))⟩
    rcases k with _ | _ | _ | _ | _ | _ | _ | _ | k
    · exact h
    all_goals cases h
  · rw [zipD_len, List.length_map, List.length_map, List.length_drop]; exact szl (by omega)
  · apply List.ext_getElem?
    intro k
    by_cases hk : k < l.length - 1
    · rw [rng_get hk, List.getElem?_map, zipD_get (at_ints (at_getD (by omega : k < l.length))) (at_ints (n := l.getD (k + 1) 0) (by rw [List.getElem?_drop, Nat.add_comm 1 k]; exact at_getD (by omega)))]
      rfl
    · rw [List.getElem?_eq_none (by rw [List.length_map, zipD_len, List.length_map, List.length_map, List.length_drop]; omega), List.getElem?_eq_none (by rw [List.length_map, List.length_range]; omega)]
  refine css_if (t_eqI (c_var 2) c_int) (fun hc => ?_) (fun hc => ?_)
  · have hc := of_decide_eq_true hc
    rw [if_pos hc] at hR
    refine css_ret (CE.eq (c_tupL T.tuple (CN.ce (n_catL (CN.ce (n_lc0 (T := .nm 7) (fun d => match d with | .int r => .int (r - 1) | d => d) (ci_list (c_var 3)) [("ratio", 7)] B (blkOk_by (N := N_law_counts) (sc := defScope s_law_counts) (by decide +kernel)) (fun _ _ _ _ _ => tg_nm 7 B.nd) (by decide) (fun k p ds hk h => by simp at hk; subst hk; cases h) (fun i d hd => ?_) (szl (by rw [List.length_map, List.length_range]; omega)))) (CN.ce (n_lst (d_cons (c_callM 0 F_law_draw (hr.mono (by decide)) rfl (d_cons c_int d_nil) rfl (fun R h' => ⟨_, _, _, rfl, h.next 4, 9, rfl, rfl, by decide, by decide, h'⟩)) d_nil) (sz (by simp)))) (sz (by simp; omega))))) ?_) ⟨_, rfl, hR⟩
    · obtain ⟨k, hk, rfl⟩ := List.mem_map.mp (List.mem_of_getElem? hd)
      refine ⟨_, .nm, fun k p es h => ?_, fun _ _ _ _ _ => c_sub (c_var 7) c_int⟩
      rcases k with _ | _ | _ | _ | _ | _ | _ | _ | k
      · exact h
      all_goals cases h
    · rw [List.map_map, List.map_append, List.map_map]
      rfl
  have hc1 := of_decide_eq_false hc
  rw [if_neg hc1] at hR
  refine css_nil ?_
  have hw := wide_in (h.next 4)
  generalize hh2 : (h.next 4).next 3 = h2 at hR
  generalize hwd : pickI [2, 9, 1000] (h.next 4) = wd at hR hw
  have hany : ∀ R : Res → List D → Prop, R (.ok (.int wd)) h2.ds → A_law_any (h.next 4).ds [.lst [.int 2, .int 9, .int 1000]] R := fun R h' => ⟨h.next 4, _, rfl, rfl, by simp, by decide, by
    have e1 : ([.int 2, .int 9, .int 1000] : List D).getD ((h.next 4).draw (([.int 2, .int 9, .int 1000] : List D).length : Nat)).toNat .non = .int wd := by rw [← hwd]; exact pickI_eq (ns := [2, 9, 1000]) (by simp)
    rw [e1]
    show R _ ((h.next 4).next 3).ds
    rw [hh2]
    exact h'⟩
  refine css_asg 4 B (d := .int wd) (c_callM 0 (cs := h2.ds) F_law_any (hr.mono (by decide)) rfl (d_cons (CN.ce (n_lst (d_cons c_int (d_cons c_int (d_cons c_int d_nil))) (sz (by simp)))) d_nil) rfl (fun R h' => ⟨_, _, _, rfl, hany _ h'⟩)) ?_
  refine css_if (t_eqI (c_var 2) c_int) (fun hc => ?_) (fun hc => ?_)
  · have hc := of_decide_eq_true hc
    rw [if_pos hc] at hR
    refine css_ret (c_tupL T.tuple (CN.ce (l_lcG (es' := (drawsOf h2 wd l.length).1.map D.int) (ρ' := [.mut q (drawsOf h2 wd l.length).2.ds, .dat (.tup (l.map D.int)), .dat (.int (h.draw 4)), .dat (.lst ((List.range (l.length - 1)).map fun k => D.int (rat l k))), .dat (.int wd), .un, .un, .un]) (T := .nm 5) (tt := tYes)
      (fun i ρi acc => ρi = [.mut q (drawsOf h2 wd i).2.ds, .dat (.tup (l.map D.int)), .dat (.int (h.draw 4)), .dat (.lst ((List.range (l.length - 1)).map fun k => D.int (rat l k))), .dat (.int wd), .un, .un, .un] ∧ acc = (drawsOf h2 wd i).1.map D.int)
      B.calm B.nd (ci_tup (c_var 1)) (blkOk_by (N := N_law_counts) (sc := defScope s_law_counts) (own := [("coin", 5)]) (by decide +kernel)) (fun _ _ _ _ _ => tg_nm 5 B.nd) (fun _ _ _ _ _ => pts_nil) (by decide) (fun k p ds hk h => ?_) ⟨rfl, rfl⟩ (fun i d ρi acc hd lk hJ => ?_) (fun ρn acc lk hJ => ?_) (owns_setM (ρ := [.mut q h2.ds, .dat (.tup (l.map D.int)), .dat (.int (h.draw 4)), .dat (.lst ((List.range (l.length - 1)).map fun k => D.int (rat l k))), .dat (.int wd), .un, .un, .un]) (i := 0) rfl)).cn)) ⟨_, rfl, hR⟩
    · simp at hk; subst hk; cases h
    · have hi := (List.getElem?_eq_some_iff.mp hd).1
      rw [el] at hi
      rw [at_ints (at_getD hi)] at hd
      cases hd
      obtain ⟨rfl, rfl⟩ := hJ
      refine ⟨_, true, _, .nm, ⟨rfl, fun F O σ H Q I q => q H I⟩, fun _ => ?_, fun h => Bool.noConfusion h⟩
      refine ⟨.int ((drawsOf h2 wd i).2.draw wd), _, [.mut q (drawsOf h2 wd (i + 1)).2.ds, .dat (.tup (l.map D.int)), .dat (.int (h.draw 4)), .dat (.lst ((List.range (l.length - 1)).map fun k => D.int (rat l k))), .dat (.int wd), .un, .un, .un],
        ev_twB (fun _ _ _ _ _ => c_callM 0 F_law_draw (hr.mono (by decide)) rfl (d_cons (c_var 4) d_nil) rfl (fun R h' => ⟨_, _, _, rfl, (drawsOf h2 wd i).2, wd, rfl, rfl, hw.1, by omega, h'⟩)) ?_, rfl, ?_, ?_, rfl, ?_⟩
      · exact owns_setM rfl
      · intro k p es hk
        rcases k with _ | _ | _ | _ | _ | _ | _ | _ | k
        · exact hk
        all_goals cases hk
      · rw [List.length_map, drawsOf_len]
        exact szl (by omega)
      · rw [← List.map_singleton, ← List.map_append]; rfl
    · obtain ⟨h1, h2⟩ := hJ
      rw [el] at h1 h2
      exact ⟨h1, h2⟩
  have hc2 := of_decide_eq_false hc
  rw [if_neg hc2] at hR
  refine css_nil ?_
  refine css_ret (c_tupL T.tuple (CN.ce (l_lcG (es' := (cntGo l.length h2).1.map D.int) (ρ' := [.mut q (cntGo l.length h2).2.ds, .dat (.tup (l.map D.int)), .dat (.int (h.draw 4)), .dat (.lst ((List.range (l.length - 1)).map fun k => D.int (rat l k))), .dat (.int wd), .un, .un, .un]) (T := .nm 5) (tt := tYes)
    (fun i ρi acc => ρi = [.mut q (cntGo i h2).2.ds, .dat (.tup (l.map D.int)), .dat (.int (h.draw 4)), .dat (.lst ((List.range (l.length - 1)).map fun k => D.int (rat l k))), .dat (.int wd), .un, .un, .un] ∧ acc = (cntGo i h2).1.map D.int)
    B.calm B.nd (ci_tup (c_var 1)) (blkOk_by (N := N_law_counts) (sc := defScope s_law_counts) (own := [("coin", 5)]) (by decide +kernel)) (fun _ _ _ _ _ => tg_nm 5 B.nd) (fun _ _ _ _ _ => pts_nil) (by decide) (fun k p ds hk h => ?_) ⟨rfl, rfl⟩ (fun i d ρi acc hd lk hJ => ?_) (fun ρn acc lk hJ => ?_) (owns_setM (ρ := [.mut q h2.ds, .dat (.tup (l.map D.int)), .dat (.int (h.draw 4)), .dat (.lst ((List.range (l.length - 1)).map fun k => D.int (rat l k))), .dat (.int wd), .un, .un, .un]) (i := 0) rfl)).cn)) ⟨_, rfl, hR⟩
  · simp at hk; subst hk; cases h
  · have hi := (List.getElem?_eq_some_iff.mp hd).1
    rw [el] at hi
    rw [at_ints (at_getD hi)] at hd
    cases hd
    obtain ⟨rfl, rfl⟩ := hJ
    refine ⟨_, true, _, .nm, ⟨rfl, fun F O σ H Q I q => q H I⟩, fun _ => ?_, fun h => Bool.noConfusion h⟩
    have b2 := Hd.draw_lt (h := (numF (cntGo i h2).2).2) (many := 2) (by decide)
    refine ⟨.int ((numF (cntGo i h2).2).1 * (numF (cntGo i h2).2).2.draw 2), _, [.mut q (cntGo (i + 1) h2).2.ds, .dat (.tup (l.map D.int)), .dat (.int (h.draw 4)), .dat (.lst ((List.range (l.length - 1)).map fun k => D.int (rat l k))), .dat (.int wd), .un, .un, .un],
      ev_twB (fun _ _ _ _ _ => c_mul (c_callM 0 F_law_number (hr.mono (by decide)) rfl d_nil rfl (fun R h' => ⟨_, _, _, rfl, (cntGo i h2).2, rfl, rfl, h'⟩)) (c_callM 0 F_law_draw (hr.mono (by decide)) rfl (d_cons c_int d_nil) rfl (fun R h' => ⟨_, _, _, rfl, (numF (cntGo i h2).2).2, 2, rfl, rfl, by decide, by decide, h'⟩)) (.inr ⟨by omega, by omega⟩)) ?_, rfl, ?_, ?_, rfl, ?_⟩
    · exact (owns_setM (ρ := [.mut q (numF (cntGo i h2).2).2.ds, .dat (.tup (l.map D.int)), .dat (.int (h.draw 4)), .dat (.lst ((List.range (l.length - 1)).map fun k => D.int (rat l k))), .dat (.int wd), .dat (.int (l.getD i 0)), .un, .un]) (i := 0) rfl).trans (owns_setM (ρ := [.mut q (cntGo i h2).2.ds, .dat (.tup (l.map D.int)), .dat (.int (h.draw 4)), .dat (.lst ((List.range (l.length - 1)).map fun k => D.int (rat l k))), .dat (.int wd), .dat (.int (l.getD i 0)), .un, .un]) (i := 0) rfl)
    · intro k p es hk
      rcases k with _ | _ | _ | _ | _ | _ | _ | _ | k
      · exact hk
      all_goals cases hk
    · rw [List.length_map, cntGo_len]
      exact szl (by omega)
    · rw [← List.map_singleton, ← List.map_append]; rfl
  · obtain ⟨h1, h2⟩ := hJ
    rw [el] at h1 h2
    exact ⟨h1, h2⟩
end KK
end

section
set_option Elab.async false
set_option linter.all false
set_option maxRecDepth 100000
set_option maxHeartbeats 4000000
namespace KK
open PySem PySem.Spec PyProof.Rows L2 VL
abbrev s_law_weighed : Stmt := topS 39
abbrev N_law_weighed : List Str := ["coins", "carries", "found", "at"]
theorem sc_law_weighed : FnScope N_law_weighed ["coins", "carries"] (defScope s_law_weighed) := ⟨rfl, rfl, rfl, by decide +kernel, rfl, by decide +kernel, by decide +kernel⟩
variable {P : Program} {w : World} {K : PySem.W.Frag} {mg : Str → Option Value} {base : Heap} {f aCoinError aBadNumber aBadPayment aBadCoins : Addr} {fd : FuncData}
theorem weiTo_lt {cs ys : List Int} (l : Lad cs) {b : Nat} (hy : ∀ y ∈ ys, Lt2 b y) : True := trivial
def A_law_weighed (ds : List D) (r : Res) : Prop := ∃ (cs ys : List Int), ds = [.tup (cs.map D.int), .tup (ys.map D.int)] ∧ Lad cs ∧ cs.length ≤ 60 ∧ ys.length = cs.length ∧ (∀ y ∈ ys, Lt2 1000 y) ∧ r = .ok (.int (wei cs ys))
theorem ok_law_weighed (T : Blt mg) (Fu : Fun K "_law_weighed" "_law_weighed" s_law_weighed f fd) (hb : Binds K fd ["coins", "carries"] []) (hm : mg "_law_weighed" = some (.ref f)) : FnV P w K mg base 1 "_law_weighed" (detS A_law_weighed) := by
  refine fn_pure (k := 0) Fu sc_law_weighed hb hm (fun ds r ⟨d, n, e, _⟩ => by subst e; rfl) fun cdv A' outer s H E hr B ds r ⟨cs, ys, e, lad, hl60, hyl, hy, er⟩ => ?_
  subst e er
  have el : (cs.map D.int).length = cs.length := List.length_map _
  have hn := lad.ne
  refine css_asg 2 B c_int ?_
  refine css_for (T := .nm 3) B (ci_range2 T.range c_int (c_lenT T.len (c_var 0)) (by rw [el]; omega)) (tg_nm 3 B.nd)
    (fun i ρ => i + 1 ≤ cs.length ∧ ∃ a, ρ = [.dat (.tup (cs.map D.int)), .dat (.tup (ys.map D.int)), .dat (.int (weiTo cs ys i)), a]) ⟨hn, _, rfl⟩ (fun i d ρ hd hJ => ?_) (fun ρ hJ => ?_)
  · obtain ⟨hi, rfl⟩ := rangeD_inv hd
    obtain ⟨_, a, rfl⟩ := hJ
    have hi' : i + 1 < cs.length := by rw [el] at hi; omega
    have a1 : atI (cs.map D.int) (1 + (i : Nat) : Int) = some (.int (cs.getD (i + 1) 0)) := atI_i (k := i + 1) (by omega) (at_ints (lad.at hi').1)
    have a2 : atI (cs.map D.int) (1 + (i : Nat) - 1 : Int) = some (.int (cs.getD i 0)) := atI_i (k := i) (by omega) (at_ints (lad.at (k := i) (by omega)).1)
    have a3 : atI (ys.map D.int) (1 + (i : Nat) : Int) = some (.int (ys.getD (i + 1) 0)) := atI_i (k := i + 1) (by omega) (at_ints (at_getD (by omega)))
    obtain ⟨_, r2, r3⟩ := lad.rat hi'
    have h1 := hy _ (List.mem_of_getElem? (at_getD (by omega : i + 1 < ys.length)))
    have h2 : Lt2 333 (rat cs i - 1) := Nat.lt_of_le_of_lt (by omega) mc_bits
    refine ⟨_, .nm, ?_⟩
    refine css_asg 2 B (c_add (c_var 2) (c_mulW (c_ixT (c_var 1) (c_var 3) a3) (c_sub (CE.eq (y := .int (rat cs i)) (c_divW (c_ixT (c_var 0) (c_var 3) a1) (c_ixT (c_var 0) (c_sub (c_var 3) c_int) a2) (dv_of (lad.at (k := i) (by omega)).2)) rfl) c_int) (mulW_of h1 h2 (by decide)))) ?_
    exact css_nil ⟨by omega, _, rfl⟩
  · obtain ⟨_, a, rfl⟩ := hJ
    have e1 : (((cs.map D.int).length : Int) - 1).toNat = cs.length - 1 := by rw [el]; omega
    rw [rangeD_len, e1]
    exact css_ret (c_var 2) rfl
end KK
end

section
set_option Elab.async false
set_option linter.all false
set_option maxRecDepth 100000
set_option maxHeartbeats 4000000
namespace KK
open PySem PySem.Spec PyProof.Rows L2 VL
variable {P : Program} {w : World} {K : PySem.W.Frag} {mg : Str → Option Value} {base : Heap} {f aCoinError aBadNumber aBadPayment aBadCoins : Addr} {fd : FuncData}
theorem carF_in {cs xs : List Int} {M : Int} (l : Lad cs) (hM : 0 ≤ M) (hx : ∀ x ∈ xs, 0 ≤ x ∧ x ≤ M) (hl : xs.length = cs.length) : (∀ x ∈ carF cs xs, 0 ≤ x ∧ x ≤ 2 * M) ∧ ∀ x ∈ carC cs xs, 0 ≤ x ∧ x ≤ M := by
  refine ⟨fun x h => ?_, fun x h => ?_⟩
  · unfold carF at h
    obtain ⟨k, hk, rfl⟩ := List.mem_map.mp h
    rw [List.mem_range] at hk
    obtain ⟨h1, h2⟩ := here_le l hM hx k hk
    have h3 := hx _ (List.mem_of_getElem? (at_getD (by omega : k < xs.length)))
    unfold fndN
    split
    · rename_i hc
      have r := (l.rat hc).2.1
      have e := Int.emod_add_mul_ediv (xs.getD k 0 + hereN cs xs k) (rat cs k)
      have q : 0 ≤ (xs.getD k 0 + hereN cs xs k) / rat cs k := Int.ediv_nonneg (by omega) (by omega)
      have q2 := Int.mul_nonneg (show 0 ≤ rat cs k by omega) q
      have q3 := Int.emod_nonneg (xs.getD k 0 + hereN cs xs k) (show rat cs k ≠ 0 by omega)
      omega
    · omega
  · unfold carC at h
    obtain ⟨k, hk, rfl⟩ := List.mem_map.mp h
    rw [List.mem_range] at hk
    exact here_le l hM hx k hk
theorem lt_M195 {x : Int} (h : 0 ≤ x ∧ x ≤ M195 * 2) : Lt2 700 x := lt_M2 h.1 (by have := M195_pos; omega)
theorem sumXs_len (cs xs ys : List Int) : (sumXs cs xs ys).length = cs.length := by unfold sumXs; rw [List.length_map, List.length_range]
theorem sumXs_in {cs xs ys : List Int} {M : Int} (hx : ∀ x ∈ xs, 0 ≤ x ∧ x ≤ M) (hy : ∀ x ∈ ys, 0 ≤ x ∧ x ≤ M) (h1 : xs.length = cs.length) (h2 : ys.length = cs.length) : ∀ x ∈ sumXs cs xs ys, 0 ≤ x ∧ x ≤ M * 2 := fun x h => by
  unfold sumXs at h
  obtain ⟨k, hk, rfl⟩ := List.mem_map.mp h
  rw [List.mem_range] at hk
  have a := hx _ (List.mem_of_getElem? (at_getD (by omega : k < xs.length)))
  have b := hy _ (List.mem_of_getElem? (at_getD (by omega : k < ys.length)))
  omega
theorem sumXs_sum {cs xs ys : List Int} (h1 : xs.length = cs.length) (h2 : ys.length = cs.length) : (sumXs cs xs ys).sum = xs.sum + ys.sum := by
  unfold sumXs
  rw [sum_sumTo, sumTo_add, sum_getD xs, sum_getD ys, h1, h2]
theorem zip_sumXs {cs xs ys : List Int} (h1 : xs.length = cs.length) (h2 : ys.length = cs.length) : (zipD (xs.map D.int) (ys.map D.int)).map (fun d => match d with | .tup [.int x, .int y] => .int (x + y) | _ => .non) = (sumXs cs xs ys).map D.int := by
  rw [zipD_ints (by omega), List.map_map, h1]
  unfold sumXs
  rw [List.map_map]
  rfl
theorem ladOk {cs : List Int} (l : Lad cs) (h : cs.length ≤ 60) (C : Addr) : ladRes C (.tup (cs.map D.int)) = .ok .non := lad_bad l h C
theorem A_carried_ok {cs xs : List Int} (l : Lad cs) (h : cs.length ≤ 60) (hx : Cnts cs.length xs) (aC aP : Addr) : A_carried aC aP [.tup (cs.map D.int), .tup (xs.map D.int)] (.ok (pairT (carF cs xs) (carC cs xs))) := ⟨_, _, rfl, plT_ints cs, plT2_ints (by have := hx.1; omega), by
  unfold ccRes
  rw [ladOk l h, lenT_ints]
  simp only [cntRes_of hx, intsT_ints]⟩
theorem A_sum_digits_ok {cs xs ys : List Int} (l : Lad cs) (h : cs.length ≤ 60) (hx : Cnts cs.length xs) (hy : Cnts cs.length ys) (aC aP : Addr) : A_sum_digits aC aP [.tup (cs.map D.int), .tup (xs.map D.int), .tup (ys.map D.int)] (.ok (.tup ((carF cs (sumXs cs xs ys)).map D.int))) := ⟨_, _, _, rfl, plT_ints cs, plT2_ints (by have := hx.1; omega), plT2_ints (by have := hy.1; omega), by
  unfold sdRes
  rw [ladOk l h, lenT_ints]
  simp only [cntRes_of hx, cntRes_of hy, intsT_ints]⟩
theorem within_ok {n : Int} (h0 : 0 ≤ n) (h1 : n ≤ c_MOST_COIN * c_MOST_COIN) : within (.int n) 0 (c_MOST_COIN * c_MOST_COIN) = true := by
  show (decide (0 ≤ n) && decide (n ≤ c_MOST_COIN * c_MOST_COIN)) = true
  rw [decide_eq_true h0, decide_eq_true h1]; rfl
theorem A_carries_ok {cs : List Int} {a b : Int} (l : Lad cs) (h : cs.length ≤ 60) (ha : 0 ≤ a ∧ a ≤ c_MOST_COIN * c_MOST_COIN) (hb : 0 ≤ b ∧ b ≤ c_MOST_COIN * c_MOST_COIN) (aC aN : Addr) : A_carries_number aC aN [.tup (cs.map D.int), .int a, .int b] (.ok (.int ((digitsOf cs a).sum + (digitsOf cs b).sum - (digitsOf cs (a + b)).sum))) := ⟨_, _, _, rfl, plT_ints cs, rfl, rfl, by
  unfold cnRes
  rw [ladOk l h]
  simp only [within_ok ha.1 ha.2, within_ok hb.1 hb.2, if_true, intsT_ints]⟩
theorem isPl_pairT {a b : List Int} (h1 : a.length < 100000) (h2 : b.length < 100000) : isPl 2 (pairT a b) = true := by
  unfold pairT isPl
  rw [Bool.and_eq_true]
  refine ⟨rfl, isPls_of fun d hd => ?_⟩
  simp only [List.mem_cons, List.not_mem_nil, or_false] at hd
  rcases hd with rfl | rfl
  · exact isPl_tupI h1
  · exact isPl_tupI h2
/-- the coins that carrying saves -/
theorem saves {cs : List Int} {a b : Int} (l : Lad cs) (ha : 0 ≤ a) (hb : 0 ≤ b) : (digitsOf cs a).sum + (digitsOf cs b).sum - (digitsOf cs (a + b)).sum = wei cs (carC cs (sumXs cs (digitsOf cs a) (digitsOf cs b))) := by
  have h1 := (dig_prop l ha).2
  have h2 := (dig_prop l hb).2
  have e : digitsOf cs (a + b) = carF cs (sumXs cs (digitsOf cs a) (digitsOf cs b)) := by
    rw [← carF_digits l]
    unfold sumXs
    rw [wor_add, h1, h2]
  rw [e, ← car_sum l (sumXs_len _ _ _), sumXs_sum (digitsOf_len _ _) (digitsOf_len _ _)]
/-- what hand and coins come to -/
def A_right (cs ds : List D) (R : Res → List D → Prop) : Prop := ∃ (h : Hd) (l : List Int), cs = h.ds ∧ ds = [.tup (l.map D.int)] ∧ Lad l ∧ l.length ≤ 60 ∧ ∀ h' : Hd, R (.ok (.bl true)) h'.ds
end KK
end

section
set_option Elab.async false
set_option linter.all false
set_option maxRecDepth 100000
set_option maxHeartbeats 4000000
namespace KK
open PySem PySem.Spec PyProof.Rows L2 VL
abbrev s_law_is_right : Stmt := topS 40
abbrev N_law_is_right : List Str := ["hand", "coins", "one", "other", "due", "both", "count", "more"]
theorem sc_law_is_right : FnScope N_law_is_right ["hand", "coins"] (defScope s_law_is_right) := ⟨rfl, rfl, rfl, by decide +kernel, rfl, by decide +kernel, by decide +kernel⟩
variable {P : Program} {w : World} {K : PySem.W.Frag} {mg : Str → Option Value} {base : Heap} {f aCoinError aBadNumber aBadPayment aBadCoins : Addr} {fd : FuncData}
theorem ok_law_is_right (T : Blt mg) (F_law_counts : FnV P w K mg base 4 "_law_counts" (mutS A_law_counts)) (F_law_carried : FnV P w K mg base 1 "_law_carried" (detS A_law_carried)) (F_law_is2 : FnV P w K mg base 3 "_law_is" (detS (A_law_is 2))) (F_law_is1 : FnV P w K mg base 2 "_law_is" (detS (A_law_is 1))) (F_carried : FnV P w K mg base 4 "carried" (detS (A_carried aBadCoins aBadPayment))) (F_law_worth : FnV P w K mg base 1 "_law_worth" (detS A_law_worth)) (F_law_weighed : FnV P w K mg base 1 "_law_weighed" (detS A_law_weighed)) (F_is_digits : FnV P w K mg base 4 "is_digits" (detS A_is_digits)) (F_sum_digits : FnV P w K mg base 4 "sum_digits" (detS (A_sum_digits aBadCoins aBadPayment))) (F_law_top4 : FnV P w K mg base 1 "_law_top" (detS A_law_top4)) (F_digits : FnV P w K mg base 4 "digits" (detS A_digits)) (F_amount : FnV P w K mg base 4 "amount" (detS A_amount)) (Fu : Fun K "_law_is_right" "_law_is_right" s_law_is_right f fd) (hb : Binds K fd ["hand", "coins"] []) (hm : mg "_law_is_right" = some (.ref f)) : FnV P w K mg base 5 "_law_is_right" (mutS A_right) := by
  refine fn_mut (k := 4) (fun cs ds R R' h ⟨hd, l, a, b, c, d, r⟩ => ⟨hd, l, a, b, c, d, fun h' => h _ _ (r h')⟩) Fu sc_law_is_right hb hm (fun cs ds R ⟨hd, l, a, b, _⟩ => by subst b; rfl) fun cdv A' outer s H E hr B q cs ds R ⟨h, l, e1, e2, lad, hl60, hR⟩ => ?_
  subst e1 e2
  have el : (l.map D.int).length = l.length := List.length_map _
  have hne := lad.ne
  have hMp := M195_pos
  have M0 : (0 : Int) ≤ M195 := by omega
  refine css_par 2 3 B (d_cons (c_callM 0 F_law_counts (hr.mono (by decide)) rfl (d_cons (c_var 1) d_nil) rfl (fun R h' => ⟨_, _, _, rfl, h, l, rfl, rfl, lad, hl60, h'⟩)) (d_cons (c_callM 0 F_law_counts (hr.mono (by decide)) rfl (d_cons (c_var 1) d_nil) rfl (fun R h' => ⟨_, _, _, rfl, (cntsF l h).2, l, rfl, rfl, lad, hl60, h'⟩)) d_nil)) ?_
  obtain ⟨xl, xin⟩ := cntsF_in lad h
  obtain ⟨yl, yin⟩ := cntsF_in lad (cntsF l h).2
  generalize (cntsF l (cntsF l h).2).2 = g
  generalize (cntsF l (cntsF l h).2).1 = ys at yl yin
  generalize (cntsF l h).1 = xs at xl xin
  have cx_ : Cnts l.length xs := ⟨xl, fun x hx => by have := xin x hx; omega⟩
  have cy_ : Cnts l.length ys := ⟨yl, fun x hx => by have := yin x hx; omega⟩
  obtain ⟨fin, cin⟩ := carF_in lad M0 xin xl
  have wr : ∀ zs : List Int, zs.length = l.length → (∀ z ∈ zs, 0 ≤ z ∧ z ≤ M195 * 2) → A_law_worth [.tup (l.map D.int), .tup (zs.map D.int)] (.ok (.int (wor l zs))) := fun zs h1 h2 => ⟨l, zs, rfl, h1, hl60, fun c hc => (lt_coin (lad.pos c hc)).mono (by decide), fun z hz => (lt_M195 (h2 z hz)).mono (by decide), rfl⟩
  refine css_asg 4 B (c_call F_law_carried (hr.mono (by decide)) (d_cons (c_var 1) (d_cons (c_var 2) d_nil)) (fun R h' => ⟨_, _, rfl, ⟨l, xs, rfl, lad, hl60, xl, rfl⟩, h'⟩)) ?_
  refine css_if (k := false) (CT.eq (t_w (w_or (t_not (t_val (c_call (d := .bl true) F_law_is2 (hr.mono (by decide)) (d_cons (c_call F_carried (hr.mono (by decide)) (d_cons (c_var 1) (d_cons (c_var 2) d_nil)) (fun R h' => ⟨_, _, rfl, A_carried_ok lad hl60 cx_ _ _, h'⟩)) (d_cons (c_var 4) d_nil)) (fun R h' => ⟨_, _, rfl, ⟨_, rfl, isPl_pairT (by rw [carF_len]; omega) (by rw [carC_len]; omega), rfl⟩, h'⟩)))) (fun _ => w_or1 (t_neI (c_call F_law_worth (hr.mono (by decide)) (d_cons (c_var 1) (d_cons (c_ixT (d := .tup ((carF l xs).map D.int)) (c_var 4) c_int rfl) d_nil)) (fun R h' => ⟨_, _, rfl, wr _ (carF_len _ _) (fun z hz => by have := fin z hz; omega), h'⟩)) (c_call F_law_worth (hr.mono (by decide)) (d_cons (c_var 1) (d_cons (c_var 2) d_nil)) (fun R h' => ⟨_, _, rfl, wr xs xl (fun z hz => by have := xin z hz; omega), h'⟩)))))) ?_) (fun hc => Bool.noConfusion hc) (fun _ => css_nil ?_)
  · rw [car_worth lad, decide_eq_true rfl]; rfl
  refine css_if (k := false) (CT.eq (t_neI (c_sub (c_sumT B.calm T.sum (c_var 2)) (c_sumT B.calm T.sum (c_ixT (d := .tup ((carF l xs).map D.int)) (c_var 4) c_int rfl))) (c_call F_law_weighed (hr.mono (by decide)) (d_cons (c_var 1) (d_cons (c_ixT (d := .tup ((carC l xs).map D.int)) (c_var 4) c_int rfl) d_nil)) (fun R h' => ⟨_, _, rfl, ⟨l, carC l xs, rfl, lad, hl60, carC_len _ _, fun y hy => (lt_M195 (by have := cin y hy; omega)).mono (by decide), rfl⟩, h'⟩))) ?_) (fun hc => Bool.noConfusion hc) (fun _ => css_nil ?_)
  · rw [car_sum lad xl, decide_eq_true rfl]; rfl
  refine css_if (k := digQ l xs && false) (t_w (w_and (t_val (c_call F_is_digits (hr.mono (by decide)) (d_cons (c_var 1) (d_cons (c_var 2) d_nil)) (fun R h' => ⟨_, _, rfl, ⟨l, xs, rfl, lad, hl60, cx_, rfl⟩, h'⟩))) (fun hk => w_and1 (CT.eq (t_not (t_val (c_call (d := .bl true) F_law_is2 (hr.mono (by decide)) (d_cons (c_var 4) (d_cons (CE.eq (y := pairT (carF l xs) (carC l xs)) (c_tup (d_cons (c_var 2) (d_cons (c_repTN (c_tup (d_cons c_int d_nil) (sz (by simp))) (c_lenT T.len (c_var 1)) (by rw [el]; omega)) d_nil)) (sz (by simp))) ?_) d_nil)) (fun R h' => ⟨_, _, rfl, ⟨_, rfl, isPl_pairT (by rw [carF_len]; omega) (by rw [carC_len]; omega), rfl⟩, h'⟩)))) rfl)))) (fun hc => ?_) (fun _ => css_nil ?_)
  · obtain ⟨s1, s2⟩ := car_same lad (digQ_prop lad cx_ hk)
    rw [s1, s2, el, Int.toNat_natCast]
    unfold pairT
    rw [List.map_replicate]
  · rw [Bool.and_false] at hc; cases hc
  have bin := sumXs_in (cs := l) xin yin xl yl
  have bl := sumXs_len l xs ys
  refine css_asg 5 B (CE.eq (y := .tup ((sumXs l xs ys).map D.int)) (c_tupL T.tuple (CN.ce (n_lc0 (T := .tp [.nm 6, .nm 7]) (fun d => match d with | .tup [.int x, .int y] => .int (x + y) | _ => .non) (ci_zipT T.zip (c_var 2) (c_var 3)) [("count", 6), ("more", 7)] B (blkOk_by (N := N_law_is_right) (sc := defScope s_law_is_right) (by decide +kernel))
      (fun _ _ _ _ _ => tg_tp rfl (tgs_cons (tg_nm 6 B.nd) (tgs_cons (tg_nm 7 B.nd) tgs_nil))) (by decide) (fun k p ds hk h => by simp at hk; rcases hk with rfl | rfl <;> cases h) (fun i d hd => ?_) ?_))) (congrArg D.tup (zip_sumXs xl yl))) ?_
  · obtain ⟨x, y, h1, h2, rfl⟩ := zipD_inv hd
    obtain ⟨u, hu, rfl⟩ := List.mem_map.mp (List.mem_of_getElem? h1)
    obtain ⟨v, hv, rfl⟩ := List.mem_map.mp (List.mem_of_getElem? h2)
    refine ⟨_, .tp (.cons .nm (.cons .nm .nil)), fun k p es h => ?_, fun _ _ _ _ _ => c_add (c_var 6) (c_var 7)⟩
    rcases k with _ | _ | _ | _ | _ | _ | _ | _ | k
    · exact h
    all_goals cases h
  · rw [zipD_len, List.length_map, List.length_map]; exact szl (by omega)
  generalize hb_ : sumXs l xs ys = bs at bin bl
  have lc : ∀ R : Res → Lo → Prop, R (.ok (pairT (carF l bs) (carC l bs))) ([.tup (l.map D.int), .tup (bs.map D.int)].map .dat) → (detS A_law_carried) ([.tup (l.map D.int), .tup (bs.map D.int)].map .dat) R := fun R h' => ⟨_, _, rfl, ⟨l, bs, rfl, lad, hl60, bl, rfl⟩, h'⟩
  refine css_if (k := false) (CT.eq (t_not (t_val (c_call (d := .bl true) F_law_is1 (hr.mono (by decide)) (d_cons (c_call F_sum_digits (hr.mono (by decide)) (d_cons (c_var 1) (d_cons (c_var 2) (d_cons (c_var 3) d_nil))) (fun R h' => ⟨_, _, rfl, A_sum_digits_ok lad hl60 cx_ cy_ _ _, h'⟩)) (d_cons (c_ixT (d := .tup ((carF l (sumXs l xs ys)).map D.int)) (c_call F_law_carried (hr.mono (by decide)) (d_cons (c_var 1) (d_cons (c_var 5) d_nil)) lc) c_int (by rw [hb_]; rfl)) d_nil)) (fun R h' => ⟨_, _, rfl, ⟨_, rfl, isPl_tupI (by rw [carF_len]; omega), rfl⟩, h'⟩)))) rfl) (fun hc => Bool.noConfusion hc) (fun _ => css_nil ?_)
  refine css_if (t_w (w_and (t_le (c_maxT B.calm T.max (c_var 5) (by omega)) (c_call F_law_top4 (hr.mono (by decide)) (d_cons c_int d_nil) (fun R h' => ⟨_, _, rfl, ⟨rfl, rfl⟩, h'⟩))) (fun _ => w_and1 (t_le (c_call F_law_worth (hr.mono (by decide)) (d_cons (c_var 1) (d_cons (c_var 5) d_nil)) (fun R h' => ⟨_, _, rfl, wr bs bl (fun z hz => by have := bin z hz; omega), h'⟩)) (c_call F_law_top4 (hr.mono (by decide)) (d_cons c_int d_nil) (fun R h' => ⟨_, _, rfl, ⟨rfl, rfl⟩, h'⟩)))))) (fun hc => ?_) (fun hc => css_nil (css_ret c_bl ⟨_, rfl, hR g⟩))
  obtain ⟨c1, c2⟩ := Bool.and_eq_true_iff.mp hc
  have c1 := of_decide_eq_true c1
  have c2 := of_decide_eq_true c2
  have hmax := (maxI_spec bs (fun e => by rw [e] at bl; simp at bl; omega)).2
  have cb_ : Cnts l.length bs := ⟨bl, fun x hx => ⟨(bin x hx).1, by have := hmax x hx; omega⟩⟩
  have w0 : 0 ≤ wor l bs := by
    unfold wor
    have : ∀ k, k ≤ l.length → 0 ≤ sumTo (fun k => l.getD k 0 * bs.getD k 0) k := fun k => by
      induction k with
      | zero => intro _; exact Int.le_refl _
      | succ k ih =>
        intro hk
        have h1 := ih (by omega)
        have h2 := (lad.at (k := k) (by omega)).2
        have h3 := bin _ (List.mem_of_getElem? (at_getD (by omega : k < bs.length)))
        have h4 := Int.mul_nonneg (show 0 ≤ l.getD k 0 by omega) h3.1
        show 0 ≤ sumTo _ k + l.getD k 0 * bs.getD k 0
        omega
    exact this _ (Nat.le_refl _)
  refine css_ret (c_call (d := .bl true) F_law_is1 (hr.mono (by decide)) (d_cons (CE.eq (y := .tup ((carF l bs).map D.int)) (c_call F_digits (hr.mono (by decide)) (d_cons (c_var 1) (d_cons (c_call F_amount (hr.mono (by decide)) (d_cons (c_var 1) (d_cons (c_var 5) d_nil)) (fun R h' => ⟨_, _, rfl, ⟨l, bs, rfl, lad, hl60, cb_, rfl⟩, h'⟩)) d_nil)) (fun R h' => ⟨_, _, rfl, ⟨l, wor l bs, rfl, lad, hl60, w0, c2, rfl⟩, h'⟩)) (by rw [carF_digits lad])) (d_cons (c_ixT (d := .tup ((carF l bs).map D.int)) (c_call F_law_carried (hr.mono (by decide)) (d_cons (c_var 1) (d_cons (c_var 5) d_nil)) lc) c_int rfl) d_nil)) (fun R h' => ⟨_, _, rfl, ⟨_, rfl, isPl_tupI (by rw [carF_len]; omega), rfl⟩, h'⟩)) ⟨_, rfl, hR g⟩
end KK
end

section
set_option Elab.async false
set_option linter.all false
set_option maxRecDepth 100000
set_option maxHeartbeats 4000000
namespace KK
open PySem PySem.Spec PyProof.Rows L2 VL
abbrev s_law_is_number_right : Stmt := topS 41
abbrev N_law_is_number_right : List Str := ["hand", "coins", "one", "other", "first", "last", "both", "due", "row", "count", "more"]
theorem sc_law_is_number_right : FnScope N_law_is_number_right ["hand", "coins"] (defScope s_law_is_number_right) := ⟨rfl, rfl, rfl, by decide +kernel, rfl, by decide +kernel, by decide +kernel⟩
variable {P : Program} {w : World} {K : PySem.W.Frag} {mg : Str → Option Value} {base : Heap} {f aCoinError aBadNumber aBadPayment aBadCoins : Addr} {fd : FuncData}
theorem ok_law_is_number_right (T : Blt mg) (F_law_number : FnV P w K mg base 3 "_law_number" (mutS A_law_number)) (F_law_any : FnV P w K mg base 2 "_law_any" (mutS A_law_any)) (F_law_digits : FnV P w K mg base 1 "_law_digits" (detS A_law_digits)) (F_law_carried : FnV P w K mg base 1 "_law_carried" (detS A_law_carried)) (F_law_weighed : FnV P w K mg base 1 "_law_weighed" (detS A_law_weighed)) (F_law_is1 : FnV P w K mg base 2 "_law_is" (detS (A_law_is 1))) (F_carries_number : FnV P w K mg base 4 "carries_number" (detS (A_carries_number aBadCoins aBadNumber))) (Fu : Fun K "_law_is_number_right" "_law_is_number_right" s_law_is_number_right f fd) (hb : Binds K fd ["hand", "coins"] []) (hm : mg "_law_is_number_right" = some (.ref f)) : FnV P w K mg base 5 "_law_is_number_right" (mutS A_right) := by
  refine fn_mut (k := 4) (fun cs ds R R' h ⟨hd, l, a, b, c, d, r⟩ => ⟨hd, l, a, b, c, d, fun h' => h _ _ (r h')⟩) Fu sc_law_is_number_right hb hm (fun cs ds R ⟨hd, l, a, b, _⟩ => by subst b; rfl) fun cdv A' outer s H E hr B q cs ds R ⟨h, l, e1, e2, lad, hl60, hR⟩ => ?_
  subst e1 e2
  have el : (l.map D.int).length = l.length := List.length_map _
  have hne := lad.ne
  have hMp := M195_pos
  have M0 : (0 : Int) ≤ M195 := by omega
  obtain ⟨g1, g2, g3⟩ := lad.at (k := l.length - 1) (by omega)
  have hlast : atI (l.map D.int) (-1) = some (.int (l.getD (l.length - 1) 0)) := at_last (by rw [el]; exact at_ints g1)
  generalize hlv : l.getD (l.length - 1) 0 = lv at hlast g2 g3
  have na := numF_in h
  have nb := numF_in (numF h).2
  have h4 : (10 : Int) ^ 195 = M195 := rfl
  rw [h4] at na nb
  generalize hna : (numF h).1 = a at na
  generalize hga : (numF h).2 = ga at nb
  generalize hnb : (numF ga).1 = b0 at nb
  have hb0 : pickI [b0, 1, 0, lv - 1] (numF ga).2 ∈ [b0, 1, 0, lv - 1] := pickI_mem (by simp)
  have hpe := pickI_eq (ns := [b0, 1, 0, lv - 1]) (h := (numF ga).2) (by simp)
  generalize hb1 : pickI [b0, 1, 0, lv - 1] (numF ga).2 = b at hb0 hpe
  have nb' : 0 ≤ b ∧ b ≤ M195 := by
    simp only [List.mem_cons, List.not_mem_nil, or_false] at hb0
    omega
  refine css_par 2 3 B (x := .int a) (y := .int b) (d_cons (CE.eq (c_callM 0 (cs := ga.ds) F_law_number (hr.mono (by decide)) rfl d_nil rfl (fun R h' => ⟨_, _, _, rfl, h, rfl, rfl, by rw [hga]; exact h'⟩)) (congrArg D.int hna)) (d_cons (CE.eq (c_callM 0 F_law_any (hr.mono (by decide)) rfl (d_cons (CN.ce (n_lst (d_cons (CE.eq (y := .int b0) (c_callM 0 F_law_number (hr.mono (by decide)) rfl d_nil rfl (fun R h' => ⟨_, _, _, rfl, ga, rfl, rfl, h'⟩)) (congrArg D.int hnb)) (d_cons c_int (d_cons c_int (d_cons (c_sub (c_ixT (c_var 1) (c_neg c_int) hlast) c_int) d_nil)))) (sz (by simp)))) d_nil) rfl (fun R h' => ⟨_, _, _, rfl, (numF ga).2, _, rfl, rfl, by simp, by simp, h'⟩)) hpe) d_nil)) ?_
  generalize (numF ga).2.next _ = g
  have dg : ∀ n, A_law_digits [.tup (l.map D.int), .int n] (.ok (.tup ((digitsOf l n).map D.int))) := fun n => ⟨l, n, rfl, fun c hc => dv_of (lad.pos c hc), by omega, rfl⟩
  refine css_par3 4 5 6 B (d_cons (c_call F_law_digits (hr.mono (by decide)) (d_cons (c_var 1) (d_cons (c_var 2) d_nil)) (fun R h => ⟨_, _, rfl, dg a, h⟩)) (d_cons (c_call F_law_digits (hr.mono (by decide)) (d_cons (c_var 1) (d_cons (c_var 3) d_nil)) (fun R h => ⟨_, _, rfl, dg b, h⟩)) (d_cons (c_call F_law_digits (hr.mono (by decide)) (d_cons (c_var 1) (d_cons (c_add (c_var 2) (c_var 3)) d_nil)) (fun R h => ⟨_, _, rfl, dg (a + b), h⟩)) d_nil))) ?_
  have xl := digitsOf_len l a
  have yl := digitsOf_len l b
  have xin : ∀ x ∈ digitsOf l a, 0 ≤ x ∧ x ≤ M195 := fun x hx => by
    have := (digGo_pos l a (fun c hc => (lad.pos c hc).1) na.1).1 x hx
    omega
  have yin : ∀ x ∈ digitsOf l b, 0 ≤ x ∧ x ≤ M195 := fun x hx => by
    have := (digGo_pos l b (fun c hc => (lad.pos c hc).1) nb'.1).1 x hx
    omega
  have sv := saves lad na.1 nb'.1
  have sv2 := saves lad nb'.1 na.1
  refine css_asg 7 B (CE.eq (c_sub (c_add (c_sumT B.calm T.sum (c_var 4)) (c_sumT B.calm T.sum (c_var 5))) (c_sumT B.calm T.sum (c_var 6))) (congrArg D.int sv)) ?_
  refine css_asg 8 B (CE.eq (y := .tup ((sumXs l (digitsOf l a) (digitsOf l b)).map D.int)) (c_tupL T.tuple (CN.ce (n_lc0 (T := .tp [.nm 9, .nm 10]) (fun d => match d with | .tup [.int x, .int y] => .int (x + y) | _ => .non) (ci_zipT T.zip (c_var 4) (c_var 5)) [("count", 9), ("more", 10)] B (blkOk_by (N := N_law_is_number_right) (sc := defScope s_law_is_number_right) (by decide +kernel))
      (fun _ _ _ _ _ => tg_tp rfl (tgs_cons (tg_nm 9 B.nd) (tgs_cons (tg_nm 10 B.nd) tgs_nil))) (by decide) (fun k p ds hk h => by simp at hk; rcases hk with rfl | rfl <;> cases h) (fun i d hd => ?_) ?_))) (congrArg D.tup (zip_sumXs xl yl))) ?_
  · obtain ⟨x, y, h1, h2, rfl⟩ := zipD_inv hd
    obtain ⟨u, hu, rfl⟩ := List.mem_map.mp (List.mem_of_getElem? h1)
    obtain ⟨v, hv, rfl⟩ := List.mem_map.mp (List.mem_of_getElem? h2)
    refine ⟨_, .tp (.cons .nm (.cons .nm .nil)), fun k p es h => ?_, fun _ _ _ _ _ => c_add (c_var 9) (c_var 10)⟩
    rcases k with _ | _ | _ | _ | _ | _ | _ | _ | _ | _ | _ | k
    · exact h
    all_goals cases h
  · rw [zipD_len, List.length_map, List.length_map]; exact szl (by omega)
  have bin := sumXs_in (cs := l) xin yin xl yl
  have bl := sumXs_len l (digitsOf l a) (digitsOf l b)
  generalize hb_ : sumXs l (digitsOf l a) (digitsOf l b) = bs at bin bl sv
  obtain ⟨_, cin⟩ := carF_in lad (M := M195 * 2) (by omega) bin bl
  have lc : ∀ R : Res → Lo → Prop, R (.ok (pairT (carF l bs) (carC l bs))) ([.tup (l.map D.int), .tup (bs.map D.int)].map .dat) → (detS A_law_carried) ([.tup (l.map D.int), .tup (bs.map D.int)].map .dat) R := fun R h' => ⟨_, _, rfl, ⟨l, bs, rfl, lad, hl60, bl, rfl⟩, h'⟩
  refine css_if (k := false) (CT.eq (t_w (w_or (t_neI (c_var 7) (c_call F_law_weighed (hr.mono (by decide)) (d_cons (c_var 1) (d_cons (c_ixT (d := .tup ((carC l bs).map D.int)) (c_call F_law_carried (hr.mono (by decide)) (d_cons (c_var 1) (d_cons (c_var 8) d_nil)) lc) c_int rfl) d_nil)) (fun R h' => ⟨_, _, rfl, ⟨l, carC l bs, rfl, lad, hl60, carC_len _ _, fun y hy => (lt_M195 (by have := cin y hy; omega)).mono (by decide), rfl⟩, h'⟩))) (fun _ => w_or1 (t_lt (c_var 7) c_int)))) ?_) (fun hc => Bool.noConfusion hc) (fun _ => css_nil ?_)
  · rw [decide_eq_true rfl, decide_eq_false (by have := wei_pos (ys := carC l bs) lad (fun y hy => (cin y hy).1); omega)]; rfl
  have bb : ∀ x, 0 ≤ x ∧ x ≤ M195 → 0 ≤ x ∧ x ≤ c_MOST_COIN * c_MOST_COIN := fun x h => by omega
  refine css_ret (c_call (d := .bl true) F_law_is1 (hr.mono (by decide)) (d_cons (CE.eq (y := .lst ([wei l (carC l bs), wei l (carC l bs)].map D.int)) (CN.ce (n_lst (d_cons (c_call F_carries_number (hr.mono (by decide)) (d_cons (c_var 1) (d_cons (c_var 2) (d_cons (c_var 3) d_nil))) (fun R h' => ⟨_, _, rfl, A_carries_ok lad hl60 (bb a na) (bb b nb') _ _, h'⟩)) (d_cons (c_call F_carries_number (hr.mono (by decide)) (d_cons (c_var 1) (d_cons (c_var 3) (d_cons (c_var 2) d_nil))) (fun R h' => ⟨_, _, rfl, A_carries_ok lad hl60 (bb b nb') (bb a na) _ _, h'⟩)) d_nil)) (sz (by simp)))) ?_) (d_cons (CN.ce (n_lst (d_cons (c_var 7) (d_cons (c_var 7) d_nil)) (sz (by simp)))) d_nil)) (fun R h' => ⟨_, _, rfl, ⟨_, rfl, isPl_lstI (by simp), rfl⟩, h'⟩)) ⟨_, rfl, hR g⟩
  rw [Int.add_comm b a, Int.add_comm (digitsOf l b).sum, sv]
  rfl
end KK
end

section
set_option Elab.async false
set_option linter.all false
set_option maxRecDepth 100000
set_option maxHeartbeats 4000000
namespace KK
open PySem PySem.Spec PyProof.Rows L2 VL VLH LamX
variable {P : Program} {w : World} {K : PySem.W.Frag} {mg : Str → Option Value} {base : Heap} {f aCoinError aBadNumber aBadPayment aBadCoins : Addr} {fd : FuncData}
/-- _law_word(lambda: ..) in a def that makes lambdas -/
theorem c_word {Ncall : List Str} {gname : Str} {st : Stmt} {kk : Nat} {g c Pt : Addr} {fdw : FuncData} {q0 : Str} (T : Wt K mg aCoinError aBadCoins aBadNumber aBadPayment) (Fw : Fun K "_law_word" "_law_word" s_law_word g fdw) (hbw : Binds K fdw ["call"] []) (hmw : mg "_law_word" = some (.ref g)) (TBx : TabB base mg c Pt) (hP : (Pt, q0) ∈ lamT) (hu : ∀ p ∈ lamT, p.1 = Pt → p.2 = q0) (hq : q0 = gname ++ (".<locals>.<lambda>" : Str))
    {cdv : Value} (hcd : cdv = .ref c) {A' : Around} {outer : List Env} {s : Shared} {H : Hp} {E : XK} {ρ : Lo} {params : Arguments} {body : Expr} {scope : Scope} {p lpos pos : Pos} {r0 : Res} {dW : VL.D} (hw : Worded aBadCoins aBadNumber aBadPayment r0 dW) (hr : Room (kk + 2) (cx P w K mg base Ncall gname st f cdv A' outer s H E).A)
    (hbody : ∀ (A : Around) (outer' : List Env) (s' : Shared) (H' : Hp) (E' : XK) (f' c' : Addr), Room kk (A.deeper (lamEnv (cx P w K mg base Ncall gname st f cdv A' outer s H E) scope s'.heap.objs.size f' c')) → CQ (lamCxN (cx P w K mg base Ncall gname st f cdv A' outer s H E) A outer' s' H' E' scope f' c') (frz ρ) body fun r ρ' => r = r0 ∧ ρ' = frz ρ)
    (L : LamS (defScope st) scope) (hdef : ∀ env, defaultsOf params env = ([], [])) (hbind : ∀ (q : Str) (cl : List (Str × Addr)) (pm cv ctv : Value), bindArgs (PySem.W.kla_fn "<lambda>" q params body scope cl pm cv ctv) ⟨[], []⟩ = pure []) (hgl : Gl (cx P w K mg base Ncall gname st f cdv A' outer s H E) "_law_word" := by rfl) :
    CE (cx P w K mg base Ncall gname st f cdv A' outer s H E) ρ (.Call (.Name "_law_word" p) [.Lambda params body scope lpos] [] pos) dW ρ := by
  subst hq
  obtain ⟨oc, od, kV, doc, pm, an, cdw, ct, osl, efd, lk, hcg⟩ := Fw.ex
  subst efd
  refine c_lamcall (X := cx P w K mg base Ncall gname st f cdv A' outer s H E) (r0 := r0) (k := kk) (a := "call") (Ng := N_law_word) (c := c) (P := Pt) (hg := hgl) ?_ ?_ hmw Fw.kp lk hcg hbw sc_law_word rfl (.inl rfl) ?_ TBx hcd hP hu hr hbody L (hdef _) hbind
  · cases hw with
    | ok h => exact h
    | coins => rfl
    | number => rfl
    | payment => rfl
  · cases hw <;> rfl
  · have nd : ∀ er, r0 = .error er → PySem.W.exmOne K (.ref er.C) (.ref aCoinError) = some true := fun er e => by
      cases hw with
      | ok h => cases e
      | coins => cases e; exact T.x_BadCoins
      | number => cases e; exact T.x_BadNumber
      | payment => cases e; exact T.x_BadPayment
    refine word_gives (X := cx P w K mg base Ncall gname st f cdv A' outer s H E) (Ng := N_law_word) (x := "_law_word") (a := "call") (e := "CoinError") (n := "error") (ret := "let") (iE := 1) (CS := aCoinError) rfl T.ce (by decide) (fun _ => rfl) sc_law_word.nd rfl rfl (fun d e => ?_) (fun er e => ⟨nd er e, fun s2 H2 aE oe dd pn hz hf hdd => ?_⟩)
    · cases hw with
      | ok h => rfl
      | coins => cases e
      | number => cases e
      | payment => cases e
    · cases hw with
      | ok h => cases e
      | @coins a =>
        cases e
        refine suite_ok (g := g) (cdg := cdw) (A := (cx P w K mg base Ncall gname st f cdv A' outer s H E).A) (outer := (cx P w K mg base Ncall gname st f cdv A' outer s H E).stack) (s := s2) (H := H2) T hz hf T.e_BadCoins T.k_BadCoins_BadCoins T.k_BadCoins_BadNumber T.k_BadCoins_BadPayment T.v_BadCoins (.inl ⟨rfl, rfl, rfl, rfl, .int a, ?_⟩)
        cases dd with
        | none => exact absurd (hdd rfl) (by simp)
        | some dx => exact ⟨dx, rfl, rfl, rfl⟩
      | number =>
        cases e
        exact suite_ok (g := g) (cdg := cdw) (A := (cx P w K mg base Ncall gname st f cdv A' outer s H E).A) (outer := (cx P w K mg base Ncall gname st f cdv A' outer s H E).stack) (s := s2) (H := H2) T hz hf T.e_BadNumber T.k_BadNumber_BadCoins T.k_BadNumber_BadNumber T.k_BadNumber_BadPayment T.v_BadNumber (.inr (.inl ⟨rfl, rfl, rfl, rfl⟩))
      | payment =>
        cases e
        exact suite_ok (g := g) (cdg := cdw) (A := (cx P w K mg base Ncall gname st f cdv A' outer s H E).A) (outer := (cx P w K mg base Ncall gname st f cdv A' outer s H E).stack) (s := s2) (H := H2) T hz hf T.e_BadPayment T.k_BadPayment_BadCoins T.k_BadPayment_BadNumber T.k_BadPayment_BadPayment T.v_BadPayment (.inr (.inr (⟨rfl, rfl, rfl, rfl⟩)))
end KK
end

section
set_option Elab.async false
set_option linter.all false
set_option maxRecDepth 100000
set_option maxHeartbeats 4000000
namespace KK
open PySem PySem.Spec PyProof.Rows L2 VL VLH LamX
abbrev s_law_are_refused : Stmt := topS 42
abbrev N_law_are_refused : List Str := ["hand", "coins", "none", "at", "counts", "odd", "spot", "bad", "heard"]
theorem sc_law_are_refused : FnScope N_law_are_refused ["hand", "coins"] (defScope s_law_are_refused) := ⟨rfl, rfl, rfl, by decide +kernel, rfl, by decide +kernel, by decide +kernel⟩
variable {P : Program} {w : World} {K : PySem.W.Frag} {mg : Str → Option Value} {base : Heap} {f aCoinError aBadNumber aBadPayment aBadCoins : Addr} {fd : FuncData}
def badCnt (n : Nat) (y : D) : Prop := plT2 y = true ∧ (cntsOf y n && smallT y) = false
theorem deep_bad {n : Nat} (h : Hd) : badCnt n (deepF h).1 ∧ plD (deepF h).1 = true ∧ within (deepF h).1 0 (c_MOST_COIN * c_MOST_COIN) = false ∧ (cntQ (deepF h).1 && smallQ (deepF h).1) = false := by
  obtain ⟨x, ⟨hx, hp⟩, e⟩ := deep_cases (P := fun d => cntQ d = false ∧ plD d = true) ⟨rfl, rfl⟩ ⟨rfl, rfl⟩ ⟨rfl, rfl⟩ (fun x _ => ⟨⟨rfl, rfl⟩, ⟨rfl, rfl⟩, rfl, rfl⟩) h
  rcases e with e | e | e <;> rw [e]
  · refine ⟨⟨?_, ?_⟩, rfl, rfl, rfl⟩
    · show (true && (decide (1 < 100000) && (plD x && true))) = true
      rw [hp]; rfl
    · show ((decide (((1 : Nat) : Int) = (n : Int)) && (cntQ x && true)) && _) = false
      rw [hx, Bool.false_and, Bool.and_false, Bool.false_and]
  · exact ⟨⟨rfl, rfl⟩, rfl, rfl, rfl⟩
  · exact ⟨⟨rfl, rfl⟩, rfl, rfl, rfl⟩
def heardD (a : Int) : List D := [.tup [.str "coins", .int a], .tup [.str "coins", .int a], .tup [.str "coins", .int a], .str "payment", .str "payment", .str "payment", .str "number", .str "number"]
theorem heard_shaped (a : Int) : SeqAt.shaped (pyd (.lst (heardD a))) = true := by
  simp [heardD, SeqAt.shaped, pyd, pyds, PyData.canLay0, PyData.canLayAll0, PyData.depth, PyData.depthAll]
  exact ⟨by decide +kernel, by decide +kernel, by decide +kernel⟩
theorem heard_eqv (a : Int) : PyData.eqv (pyd (.lst (heardD a))) (pyd (.lst (heardD a))) = true := by
  simp [heardD, pyd, pyds, PyData.eqv, PyData.eqvAll]
theorem within_gt {n m : Int} (h : m < n) : within (.int n) 0 m = false := by
  show (decide (0 ≤ n) && decide (n ≤ m)) = false
  rw [decide_eq_false (by omega : ¬ n ≤ m), Bool.and_false]
theorem small_gt {n : Int} (h : c_MOST_COIN * c_MOST_COIN < n) : smallQ (.int n) = false := by
  show decide (n ≤ c_MOST_COIN * c_MOST_COIN) = false
  exact decide_eq_false (by omega)
theorem bad_len {n : Nat} {xs : List Int} (h : xs.length ≠ n) (h2 : xs.length < 100000) : badCnt n (.tup (xs.map D.int)) := ⟨plT2_ints h2, by
  show ((decide (((xs.map D.int).length : Int) = (n : Int)) && _) && _) = false
  rw [decide_eq_false (by rw [List.length_map]; omega)]; rfl⟩
theorem bad_set {n k : Nat} {xs : List Int} (hn : xs.length = n) (h60 : n ≤ 60) (hk : k < n) {y : D} (hy : plD y = true) (hq : (cntQ y && smallQ y) = false) : badCnt n (.tup ((xs.map D.int).set k y)) := by
  constructor
  · unfold plT2
    simp only [Bool.and_eq_true, decide_eq_true_eq, List.length_set, List.length_map]
    refine ⟨rfl, by omega, ?_⟩
    rw [List.all_eq_true]
    intro d hd
    rcases List.mem_or_eq_of_mem_set hd with hd | rfl
    · obtain ⟨x, hx, rfl⟩ := List.mem_map.mp hd
      rfl
    · exact hy
  · have hm : y ∈ (xs.map D.int).set k y := List.mem_of_getElem? (List.getElem?_set_self (by rw [List.length_map]; omega))
    rw [Bool.and_eq_false_iff] at hq ⊢
    rcases hq with hq | hq
    · left
      show (_ && ((xs.map D.int).set k y).all cntQ) = false
      rw [show ((xs.map D.int).set k y).all cntQ = false from List.all_eq_false.mpr ⟨y, hm, by rw [hq]; decide⟩, Bool.and_false]
    · right
      exact List.all_eq_false.mpr ⟨y, hm, by rw [hq]; decide⟩
variable {g c Pt : Addr} {fdw : FuncData}
theorem ok_law_are_refused (T : Blt mg) (W_ : Wt K mg aCoinError aBadCoins aBadNumber aBadPayment) (Fw : Fun K "_law_word" "_law_word" s_law_word g fdw) (hbw : Binds K fdw ["call"] []) (hmw : mg "_law_word" = some (.ref g)) (TBx : TabB base mg c Pt) (hP : (Pt, ("_law_are_refused.<locals>.<lambda>" : Str)) ∈ lamT) (hu : ∀ p ∈ lamT, p.1 = Pt → p.2 = ("_law_are_refused.<locals>.<lambda>" : Str)) (hfc : fd.code = .ref c) (F_law_no_coins : FnV P w K mg base 4 "_law_no_coins" (mutS (A_law_no_coins aBadCoins))) (F_law_any : FnV P w K mg base 2 "_law_any" (mutS A_law_any)) (F_law_deep : FnV P w K mg base 3 "_law_deep" (mutS A_law_deep)) (F_law_top4 : FnV P w K mg base 1 "_law_top" (detS A_law_top4)) (F_law_draw : FnV P w K mg base 1 "_law_draw" (mutS A_law_draw)) (F_law_digits : FnV P w K mg base 1 "_law_digits" (detS A_law_digits)) (F_carried : FnV P w K mg base 4 "carried" (detS (A_carried aBadCoins aBadPayment))) (F_sum_digits : FnV P w K mg base 4 "sum_digits" (detS (A_sum_digits aBadCoins aBadPayment))) (F_carries_number : FnV P w K mg base 4 "carries_number" (detS (A_carries_number aBadCoins aBadNumber))) (Fu : Fun K "_law_are_refused" "_law_are_refused" s_law_are_refused f fd) (hb : Binds K fd ["hand", "coins"] []) (hm : mg "_law_are_refused" = some (.ref f)) : FnV P w K mg base 7 "_law_are_refused" (mutS A_right) := by
  refine fn_mutC (k := 6) (fun cs ds R R' h ⟨hd, l, a, b, c, d, r⟩ => ⟨hd, l, a, b, c, d, fun h' => h _ _ (r h')⟩) Fu sc_law_are_refused hb hm (fun cs ds R ⟨hd, l, a, b, _⟩ => by subst b; rfl) fun cdv hcd A' outer s H E hr B q cs ds R ⟨h, l, e1, e2, lad, hl60, hR⟩ => ?_
  subst e1 e2
  have ecd : cdv = .ref c := hcd.symm.trans hfc
  have el : (l.map D.int).length = l.length := List.length_map _
  have hne := lad.ne
  have h5 : (0 : Int) ≤ 5 := by decide
  have hcl := digitsOf_len l 5
  have hcin : ∀ x ∈ digitsOf l 5, 0 ≤ x ∧ x ≤ c_MOST_COIN * c_MOST_COIN := fun x hx => by
    have := (digGo_pos l 5 (fun c hc => (lad.pos c hc).1) h5).1 x hx
    have := M195_pos
    omega
  have hct : Cnts l.length (digitsOf l 5) := ⟨hcl, hcin⟩
  have dg : A_law_digits [.tup (l.map D.int), .int 5] (.ok (.tup ((digitsOf l 5).map D.int))) := ⟨l, 5, rfl, fun c hc => dv_of (lad.pos c hc), by omega, rfl⟩
  generalize hcs : digitsOf l 5 = cn at hcl hcin hct dg
  refine css_tupD (T := .tp [.tp [.nm 2, .nm 3], .nm 4]) (qe_tup2 (q_hand 0 F_law_no_coins (hr.mono (by decide)) rfl (d_cons (c_var 1) d_nil) rfl ⟨q, h.ds, [.tup (l.map D.int)], rfl, h, l, rfl, rfl, lad, hl60, fun x a h1 hx => ⟨_, _, rfl, rfl, .tup (cn.map D.int), _, c_call F_law_digits (hr.mono (by decide)) (d_cons (c_var 1) (d_cons c_int d_nil)) (fun R h => ⟨_, _, rfl, dg, h⟩), _, .tp (.cons (.tp (.cons .nm (.cons .nm .nil))) (.cons .nm .nil)), ?_⟩⟩)) (tg_tp rfl (tgs_cons (tg_tp rfl (tgs_cons (tg_nm 2 B.nd) (tgs_cons (tg_nm 3 B.nd) tgs_nil))) (tgs_cons (tg_nm 4 B.nd) tgs_nil)))
  obtain ⟨hx1, hx2⟩ := hx
  obtain ⟨dp1, dp2, dp3, dp4⟩ := deep_bad (n := l.length) h1
  have b7 := Hd.draw_lt (h := (deepF h1).2) (many := 7) (by decide)
  have hy := getD_mem (l := [.int (-1), .non, .bl true, .str "1", .tup [.int 1], .int (c_MOST_COIN * c_MOST_COIN + 1), (deepF h1).1]) (k := ((deepF h1).2.draw 7).toNat) (by simp; omega)
  have hyp : ∀ y, y ∈ ([.int (-1), .non, .bl true, .str "1", .tup [.int 1], .int (c_MOST_COIN * c_MOST_COIN + 1), (deepF h1).1] : List D) → plD y = true ∧ within y 0 (c_MOST_COIN * c_MOST_COIN) = false ∧ (cntQ y && smallQ y) = false := fun y hy => by
    simp only [List.mem_cons, List.not_mem_nil, or_false] at hy
    rcases hy with rfl | rfl | rfl | rfl | rfl | rfl | rfl
    · exact ⟨rfl, rfl, rfl⟩
    · exact ⟨rfl, rfl, rfl⟩
    · exact ⟨rfl, rfl, rfl⟩
    · exact ⟨rfl, rfl, rfl⟩
    · exact ⟨rfl, rfl, rfl⟩
    · exact ⟨rfl, within_gt (by omega), by rw [small_gt (by omega), Bool.and_false]⟩
    · exact ⟨dp2, dp3, dp4⟩
  obtain ⟨y1, y2, y3⟩ := hyp _ hy
  generalize hyd : ([.int (-1), .non, .bl true, .str "1", .tup [.int 1], .int (c_MOST_COIN * c_MOST_COIN + 1), (deepF h1).1] : List D).getD ((deepF h1).2.draw 7).toNat .non = y at y1 y2 y3
  refine css_asg 5 B (d := y) (CE.eq (c_callM 0 F_law_any (hr.mono (by decide)) rfl (d_cons (CN.ce (n_lst (d_cons (c_neg c_int) (d_cons c_non (d_cons c_bl (d_cons c_str (d_cons (c_tup (d_cons c_int d_nil) (sz (by simp))) (d_cons (c_add (c_call F_law_top4 (hr.mono (by decide)) (d_cons c_int d_nil) (fun R h' => ⟨_, _, rfl, ⟨rfl, rfl⟩, h'⟩)) c_int) (d_cons (c_callM 0 F_law_deep (hr.mono (by decide)) rfl d_nil rfl (fun R h' => ⟨_, _, _, rfl, h1, rfl, rfl, h'⟩)) d_nil))))))) (sz (by simp)))) d_nil) rfl (fun R h' => ⟨_, _, _, rfl, (deepF h1).2, _, rfl, rfl, by simp, by simp, h'⟩)) hyd) ?_
  generalize (deepF h1).2.next _ = h2
  have hcnl : (cn.map D.int).length = cn.length := List.length_map _
  have b1 := Hd.draw_lt (h := h2) (many := (cn.length : Nat)) (by omega)
  obtain ⟨k, hk⟩ := nat_of b1.1
  refine css_asg 6 B (d := .int (k : Nat)) (CE.eq (c_callM 0 F_law_draw (hr.mono (by decide)) rfl (d_cons (c_lenT T.len (c_var 4)) d_nil) rfl (fun R h' => ⟨_, _, _, rfl, h2, (cn.length : Nat), rfl, by rw [hcnl], by omega, by omega, h'⟩)) (congrArg D.int hk)) ?_
  have hk' : k < cn.length := by omega
  generalize h2.next _ = h3
  have hset : (cn.map D.int).set k y = (cn.map D.int).take k ++ ([y] ++ (cn.map D.int).drop (k + 1)) := List.set_eq_take_append_cons_drop.trans (if_pos (by rw [hcnl]; exact hk'))
  refine css_asg 7 B (d := .lst [.tup ((cn.map D.int).set k y), .tup ((cn.drop 1).map D.int), .tup ((cn ++ [0]).map D.int), .lst (cn.map D.int), .non, .int 0]) (CE.eq (CN.ce (n_lst (d_cons (c_catT (c_catT (c_slT (c_var 4) o_none (o_some (c_var 6))) (c_tup (d_cons (c_var 5) d_nil) (sz (by simp))) (sz (by rw [cutD_take, List.length_take]; simp; omega))) (c_slT (c_var 4) (o_some (c_add (c_var 6) c_int)) o_none) (sz (by rw [cutD_take, show ((k : Nat) : Int) + 1 = ((k + 1 : Nat) : Int) from rfl, cutD_drop, List.length_append, List.length_take, List.length_drop, hcnl]; simp; omega)))
    (d_cons (c_slT (c_var 4) (o_some c_int) o_none) (d_cons (c_catT (c_var 4) (c_tup (d_cons c_int d_nil) (sz (by simp))) (sz (by rw [hcnl]; simp; omega))) (d_cons (CN.ce (n_listT T.list (c_var 4))) (d_cons c_non (d_cons c_int d_nil)))))) (sz (by simp)))) ?_) ?_
  · rw [hset, cutD_take, show ((k : Nat) : Int) + 1 = ((k + 1 : Nat) : Int) from rfl, cutD_drop, show (1 : Int) = ((1 : Nat) : Int) from rfl, cutD_drop, List.append_assoc, List.map_drop, List.map_append]
    rfl
  obtain ⟨ep1, ep2, ep3, ep4⟩ := deep_bad (n := l.length) h3
  have c7 := Hd.draw_lt (h := (deepF h3).2) (many := 7) (by decide)
  have hz := getD_mem (l := [.tup ((cn.map D.int).set k y), .tup ((cn.drop 1).map D.int), .tup ((cn ++ [0]).map D.int), .lst (cn.map D.int), .non, .int 0, (deepF h3).1]) (k := ((deepF h3).2.draw 7).toNat) (by simp; omega)
  have hzp : ∀ z, z ∈ ([.tup ((cn.map D.int).set k y), .tup ((cn.drop 1).map D.int), .tup ((cn ++ [0]).map D.int), .lst (cn.map D.int), .non, .int 0, (deepF h3).1] : List D) → badCnt l.length z := fun z hz => by
    simp only [List.mem_cons, List.not_mem_nil, or_false] at hz
    rcases hz with rfl | rfl | rfl | rfl | rfl | rfl | rfl
    · exact bad_set hcl hl60 (by omega) y1 y3
    · exact bad_len (by rw [List.length_drop]; omega) (by rw [List.length_drop]; omega)
    · exact bad_len (by rw [List.length_append]; simp; omega) (by rw [List.length_append]; simp; omega)
    · exact ⟨rfl, rfl⟩
    · exact ⟨rfl, rfl⟩
    · exact ⟨rfl, rfl⟩
    · exact ep1
  obtain ⟨z1, z2⟩ := hzp _ hz
  generalize hzd : ([.tup ((cn.map D.int).set k y), .tup ((cn.drop 1).map D.int), .tup ((cn ++ [0]).map D.int), .lst (cn.map D.int), .non, .int 0, (deepF h3).1] : List D).getD ((deepF h3).2.draw 7).toNat .non = z at z1 z2
  refine css_asg 7 B (d := z) (CE.eq (c_callM 0 F_law_any (hr.mono (by decide)) rfl (d_cons (CN.ce (n_catL (c_var 7) (CN.ce (n_lst (d_cons (c_callM 0 F_law_deep (hr.mono (by decide)) rfl d_nil rfl (fun R h' => ⟨_, _, _, rfl, h3, rfl, rfl, h'⟩)) d_nil) (sz (by simp)))) (sz (by simp)))) d_nil) rfl (fun R h' => ⟨_, _, _, rfl, (deepF h3).2, _, rfl, rfl, by simp, by simp, h'⟩)) hzd) ?_
  generalize (deepF h3).2.next _ = h4
  have cz : cntRes aBadPayment l.length z = .error ⟨aBadPayment, []⟩ := by unfold cntRes; rw [z2]; rfl
  have cg : cntRes aBadPayment l.length (.tup (cn.map D.int)) = .ok .non := cntRes_of hct
  have pc : plT2 (.tup (cn.map D.int)) = true := plT2_ints (by omega)
  have A1 : A_carried aBadCoins aBadPayment [x, .tup (cn.map D.int)] (.error ⟨aBadCoins, [("at", .int a)]⟩) := ⟨_, _, rfl, hx1, pc, by unfold ccRes; rw [hx2]⟩
  have A2 : A_sum_digits aBadCoins aBadPayment [x, .tup (cn.map D.int), .tup (cn.map D.int)] (.error ⟨aBadCoins, [("at", .int a)]⟩) := ⟨_, _, _, rfl, hx1, pc, pc, by unfold sdRes; rw [hx2]⟩
  have A3 : A_carries_number aBadCoins aBadNumber [x, .int 1, .int 1] (.error ⟨aBadCoins, [("at", .int a)]⟩) := ⟨_, _, _, rfl, hx1, rfl, rfl, by unfold cnRes; rw [hx2]⟩
  have A4 : A_carried aBadCoins aBadPayment [.tup (l.map D.int), z] (.error ⟨aBadPayment, []⟩) := ⟨_, _, rfl, plT_ints l, z1, by unfold ccRes; rw [lad_bad lad hl60 aBadCoins, lenT_ints]; simp only [cz]⟩
  have A5 : A_sum_digits aBadCoins aBadPayment [.tup (l.map D.int), z, .tup (cn.map D.int)] (.error ⟨aBadPayment, []⟩) := ⟨_, _, _, rfl, plT_ints l, z1, pc, by unfold sdRes; rw [lad_bad lad hl60 aBadCoins, lenT_ints]; simp only [cz]⟩
  have A6 : A_sum_digits aBadCoins aBadPayment [.tup (l.map D.int), .tup (cn.map D.int), z] (.error ⟨aBadPayment, []⟩) := ⟨_, _, _, rfl, plT_ints l, pc, z1, by unfold sdRes; rw [lad_bad lad hl60 aBadCoins, lenT_ints]; simp only [cg, cz]⟩
  have w1 : within (.int 1) 0 (c_MOST_COIN * c_MOST_COIN) = true := within_ok (by decide) (by have := M195_pos; omega)
  have A7 : A_carries_number aBadCoins aBadNumber [.tup (l.map D.int), y, .int 1] (.error ⟨aBadNumber, []⟩) := ⟨_, _, _, rfl, plT_ints l, y1, rfl, by unfold cnRes; rw [lad_bad lad hl60 aBadCoins]; simp only [y2]; rfl⟩
  have A8 : A_carries_number aBadCoins aBadNumber [.tup (l.map D.int), .int 1, y] (.error ⟨aBadNumber, []⟩) := ⟨_, _, _, rfl, plT_ints l, rfl, y1, by unfold cnRes; rw [lad_bad lad hl60 aBadCoins]; simp only [y2, w1, if_true]; rfl⟩
  show CSs _ [.mut q h4.ds, .dat (.tup (l.map D.int)), .dat x, .dat (.int a), .dat (.tup (cn.map D.int)), .dat y, .dat (.int (k : Nat)), .dat z, .un] _ _
  have hq0 : ("_law_are_refused.<locals>.<lambda>" : Str) = ("_law_are_refused" : Str) ++ (".<locals>.<lambda>" : Str) := by decide +kernel
  refine css_asgN 8 B (n_lst (d_cons (c_word W_ Fw hbw hmw TBx hP hu hq0 ecd .coins hr (fun A o s' H' E' f' c' hr' => q_call F_carried (hr'.mono (by decide)) (d_cons (c_var 2) (d_cons (c_var 4) d_nil)) ⟨_, _, rfl, A1, rfl, rfl, rfl⟩) (lamS_by (by decide +kernel)) (fun _ => rfl) (fun _ _ _ _ _ => rfl)) d_nil) (sz (by simp))) (fun q2 => ?_)
  show CSs _ [.mut q h4.ds, .dat (.tup (l.map D.int)), .dat x, .dat (.int a), .dat (.tup (cn.map D.int)), .dat y, .dat (.int (k : Nat)), .dat z, .mut q2 [.tup [.str "coins", .int a]]] _ _
  refine css_append 8 (c_word W_ Fw hbw hmw TBx hP hu hq0 ecd .coins hr (fun A o s' H' E' f' c' hr' => q_call F_sum_digits (hr'.mono (by decide)) (d_cons (c_var 2) (d_cons (c_var 4) (d_cons (c_var 4) d_nil))) ⟨_, _, rfl, A2, rfl, rfl, rfl⟩) (lamS_by (by decide +kernel)) (fun _ => rfl) (fun _ _ _ _ _ => rfl)) rfl rfl (szl (by simp)) ?_
  show CSs _ [.mut q h4.ds, .dat (.tup (l.map D.int)), .dat x, .dat (.int a), .dat (.tup (cn.map D.int)), .dat y, .dat (.int (k : Nat)), .dat z, .mut q2 [.tup [.str "coins", .int a], .tup [.str "coins", .int a]]] _ _
  refine css_append 8 (c_word W_ Fw hbw hmw TBx hP hu hq0 ecd .coins hr (fun A o s' H' E' f' c' hr' => q_call F_carries_number (hr'.mono (by decide)) (d_cons (c_var 2) (d_cons c_int (d_cons c_int d_nil))) ⟨_, _, rfl, A3, rfl, rfl, rfl⟩) (lamS_by (by decide +kernel)) (fun _ => rfl) (fun _ _ _ _ _ => rfl)) rfl rfl (szl (by simp)) ?_
  show CSs _ [.mut q h4.ds, .dat (.tup (l.map D.int)), .dat x, .dat (.int a), .dat (.tup (cn.map D.int)), .dat y, .dat (.int (k : Nat)), .dat z, .mut q2 [.tup [.str "coins", .int a], .tup [.str "coins", .int a], .tup [.str "coins", .int a]]] _ _
  refine css_append 8 (c_word W_ Fw hbw hmw TBx hP hu hq0 ecd .payment hr (fun A o s' H' E' f' c' hr' => q_call F_carried (hr'.mono (by decide)) (d_cons (c_var 1) (d_cons (c_var 7) d_nil)) ⟨_, _, rfl, A4, rfl, rfl, rfl⟩) (lamS_by (by decide +kernel)) (fun _ => rfl) (fun _ _ _ _ _ => rfl)) rfl rfl (szl (by simp)) ?_
  show CSs _ [.mut q h4.ds, .dat (.tup (l.map D.int)), .dat x, .dat (.int a), .dat (.tup (cn.map D.int)), .dat y, .dat (.int (k : Nat)), .dat z, .mut q2 [.tup [.str "coins", .int a], .tup [.str "coins", .int a], .tup [.str "coins", .int a], .str "payment"]] _ _
  refine css_append 8 (c_word W_ Fw hbw hmw TBx hP hu hq0 ecd .payment hr (fun A o s' H' E' f' c' hr' => q_call F_sum_digits (hr'.mono (by decide)) (d_cons (c_var 1) (d_cons (c_var 7) (d_cons (c_var 4) d_nil))) ⟨_, _, rfl, A5, rfl, rfl, rfl⟩) (lamS_by (by decide +kernel)) (fun _ => rfl) (fun _ _ _ _ _ => rfl)) rfl rfl (szl (by simp)) ?_
  show CSs _ [.mut q h4.ds, .dat (.tup (l.map D.int)), .dat x, .dat (.int a), .dat (.tup (cn.map D.int)), .dat y, .dat (.int (k : Nat)), .dat z, .mut q2 [.tup [.str "coins", .int a], .tup [.str "coins", .int a], .tup [.str "coins", .int a], .str "payment", .str "payment"]] _ _
  refine css_append 8 (c_word W_ Fw hbw hmw TBx hP hu hq0 ecd .payment hr (fun A o s' H' E' f' c' hr' => q_call F_sum_digits (hr'.mono (by decide)) (d_cons (c_var 1) (d_cons (c_var 4) (d_cons (c_var 7) d_nil))) ⟨_, _, rfl, A6, rfl, rfl, rfl⟩) (lamS_by (by decide +kernel)) (fun _ => rfl) (fun _ _ _ _ _ => rfl)) rfl rfl (szl (by simp)) ?_
  show CSs _ [.mut q h4.ds, .dat (.tup (l.map D.int)), .dat x, .dat (.int a), .dat (.tup (cn.map D.int)), .dat y, .dat (.int (k : Nat)), .dat z, .mut q2 [.tup [.str "coins", .int a], .tup [.str "coins", .int a], .tup [.str "coins", .int a], .str "payment", .str "payment", .str "payment"]] _ _
  refine css_append 8 (c_word W_ Fw hbw hmw TBx hP hu hq0 ecd .number hr (fun A o s' H' E' f' c' hr' => q_call F_carries_number (hr'.mono (by decide)) (d_cons (c_var 1) (d_cons (c_var 5) (d_cons c_int d_nil))) ⟨_, _, rfl, A7, rfl, rfl, rfl⟩) (lamS_by (by decide +kernel)) (fun _ => rfl) (fun _ _ _ _ _ => rfl)) rfl rfl (szl (by simp)) ?_
  show CSs _ [.mut q h4.ds, .dat (.tup (l.map D.int)), .dat x, .dat (.int a), .dat (.tup (cn.map D.int)), .dat y, .dat (.int (k : Nat)), .dat z, .mut q2 [.tup [.str "coins", .int a], .tup [.str "coins", .int a], .tup [.str "coins", .int a], .str "payment", .str "payment", .str "payment", .str "number"]] _ _
  refine css_append 8 (c_word W_ Fw hbw hmw TBx hP hu hq0 ecd .number hr (fun A o s' H' E' f' c' hr' => q_call F_carries_number (hr'.mono (by decide)) (d_cons (c_var 1) (d_cons c_int (d_cons (c_var 5) d_nil))) ⟨_, _, rfl, A8, rfl, rfl, rfl⟩) (lamS_by (by decide +kernel)) (fun _ => rfl) (fun _ _ _ _ _ => rfl)) rfl rfl (szl (by simp)) ?_
  show CSs _ [.mut q h4.ds, .dat (.tup (l.map D.int)), .dat x, .dat (.int a), .dat (.tup (cn.map D.int)), .dat y, .dat (.int (k : Nat)), .dat z, .mut q2 [.tup [.str "coins", .int a], .tup [.str "coins", .int a], .tup [.str "coins", .int a], .str "payment", .str "payment", .str "payment", .str "number", .str "number"]] _ _
  refine css_freeze (i := 8) rfl ?_
  show CSs _ [.mut q h4.ds, .dat (.tup (l.map D.int)), .dat x, .dat (.int a), .dat (.tup (cn.map D.int)), .dat y, .dat (.int (k : Nat)), .dat z, .dat (.lst (heardD a))] _ _
  refine css_ret (d := .bl true) (CE.eq (c_eqD (x := .lst (heardD a)) (y := .lst (heardD a)) (by have := hr.un; omega) (c_var 8) (CE.eq (CN.ce (n_catL (CN.ce (n_catL (CN.ce (n_repL (CN.ce (n_lst (d_cons (c_tup (d_cons c_str (d_cons (c_var 3) d_nil)) (sz (by simp))) d_nil) (sz (by simp)))) c_int (by decide) (sz (by simp)))) (CN.ce (n_repL (CN.ce (n_lst (d_cons c_str d_nil) (sz (by simp)))) c_int (by decide) (sz (by simp)))) (sz (by simp)))) (CN.ce (n_repL (CN.ce (n_lst (d_cons c_str d_nil) (sz (by simp)))) c_int (by decide) (sz (by simp)))) (sz (by simp)))) rfl) rfl rfl (heard_shaped a) (heard_shaped a)) ?_) ⟨_, rfl, hR _⟩
  rw [heard_eqv]
end KK
end

section
set_option Elab.async false
set_option linter.all false
set_option maxRecDepth 100000
set_option maxHeartbeats 4000000
namespace KK
open PySem PySem.Spec PyProof.Rows L2 VL
abbrev s_law : Stmt := topS 43
abbrev N_law : List Str := ["script", "hand", "tens", "said", "turn", "coins"]
theorem sc_law : FnScope N_law ["script"] (defScope s_law) := ⟨rfl, rfl, rfl, by decide +kernel, rfl, by decide +kernel, by decide +kernel⟩
variable {P : Program} {w : World} {K : PySem.W.Frag} {mg : Str → Option Value} {base : Heap} {f aCoinError aBadNumber aBadPayment aBadCoins : Addr} {fd : FuncData}
theorem lad_tens : Lad [1, 10, 100] := by
  have l1 : Lad [1] := ⟨by decide, rfl, fun c hc => by rw [List.mem_singleton] at hc; subst hc; exact ⟨by decide, by unfold c_MOST_COIN; decide⟩, fun k hk => by simp at hk⟩
  have l2 : Lad [1, 10] := l1.push (by decide) (by decide) (by unfold c_MOST_COIN; decide)
  exact l2.push (by decide) (by decide) (by unfold c_MOST_COIN; decide)
theorem cnt3 {a b c : Int} (h : (0 ≤ a ∧ a ≤ 100) ∧ (0 ≤ b ∧ b ≤ 100) ∧ (0 ≤ c ∧ c ≤ 100)) : Cnts ([1, 10, 100] : List Int).length [a, b, c] := ⟨rfl, fun x hx => by
  have := M195_pos
  simp only [List.mem_cons, List.not_mem_nil, or_false] at hx
  omega⟩
theorem ex1 : carF [1, 10, 100] [12, 9, 0] = [2, 0, 1] ∧ carC [1, 10, 100] [12, 9, 0] = [0, 1, 1] ∧ carF [1, 10, 100] (sumXs [1, 10, 100] [9, 9, 0] [1, 0, 0]) = [0, 0, 1] ∧ (digitsOf [1, 10, 100] 99).sum + (digitsOf [1, 10, 100] 1).sum - (digitsOf [1, 10, 100] (99 + 1)).sum = 18 := by decide +kernel
theorem ok_law (T : Blt mg) (F_law_hand : FnN P w K mg base 2 "_law_hand" (A_law_hand 47)) (F_carried : FnV P w K mg base 4 "carried" (detS (A_carried aBadCoins aBadPayment))) (F_sum_digits : FnV P w K mg base 4 "sum_digits" (detS (A_sum_digits aBadCoins aBadPayment))) (F_carries_number : FnV P w K mg base 4 "carries_number" (detS (A_carries_number aBadCoins aBadNumber))) (F_law_is3 : FnV P w K mg base 4 "_law_is" (detS (A_law_is 3))) (F_law_ladder : FnV P w K mg base 3 "_law_ladder" (mutS A_law_ladder)) (F_law_is_right : FnV P w K mg base 5 "_law_is_right" (mutS A_right)) (F_law_is_number_right : FnV P w K mg base 5 "_law_is_number_right" (mutS A_right)) (F_law_are_refused : FnV P w K mg base 7 "_law_are_refused" (mutS A_right)) (Fu : Fun K "law" "law" s_law f fd) (hb : Binds K fd ["script"] []) (hm : mg "law" = some (.ref f)) : FnOk P w K mg base (L2N.CX P w) 8 f fd ["script"] (spV K (detS A_script)) := by
  refine fn_law (k := 7) Fu sc_law (fun ds r ⟨ns, e, _⟩ => by subst e; rfl) (hb := hb) (hm := hm) fun cdv A' outer s H E hr B ds r ⟨ns, e, hl, er⟩ => ?_
  subst e er
  obtain ⟨x1, x2, x3, x4⟩ := ex1
  have hM := M195_pos
  refine css_asgN 1 B (n_call F_law_hand (hr.mono (by decide)) (d_cons (c_var 0) d_nil) ⟨ns, rfl, hl, rfl⟩) (fun q => ?_)
  refine css_asg 2 B (d := .tup (([1, 10, 100] : List Int).map D.int)) (c_tup (d_cons c_int (d_cons c_int (d_cons c_int d_nil))) (sz (by simp))) ?_
  refine css_asg 3 B (d := .lst [pairT [2, 0, 1] [0, 1, 1], .tup (([0, 0, 1] : List Int).map D.int), .int 18]) (CN.ce (n_lst (d_cons (CE.eq (c_call F_carried (hr.mono (by decide)) (d_cons (c_var 2) (d_cons (c_tup (ds := ([12, 9, 0] : List Int).map D.int) (d_cons c_int (d_cons c_int (d_cons c_int d_nil))) (sz (by simp))) d_nil)) (fun R h => ⟨_, _, rfl, A_carried_ok lad_tens (by decide) (cnt3 (by decide)) _ _, h⟩)) (by rw [x1, x2]))
    (d_cons (CE.eq (c_call F_sum_digits (hr.mono (by decide)) (d_cons (c_var 2) (d_cons (c_tup (ds := ([9, 9, 0] : List Int).map D.int) (d_cons c_int (d_cons c_int (d_cons c_int d_nil))) (sz (by simp))) (d_cons (c_tup (ds := ([1, 0, 0] : List Int).map D.int) (d_cons c_int (d_cons c_int (d_cons c_int d_nil))) (sz (by simp))) d_nil))) (fun R h => ⟨_, _, rfl, A_sum_digits_ok lad_tens (by decide) (cnt3 (by decide)) (cnt3 (by decide)) _ _, h⟩)) (by rw [x3]))
    (d_cons (CE.eq (c_call F_carries_number (hr.mono (by decide)) (d_cons (c_var 2) (d_cons c_int (d_cons c_int d_nil))) (fun R h => ⟨_, _, rfl, A_carries_ok lad_tens (by decide) ⟨by decide, by omega⟩ ⟨by decide, by omega⟩ _ _, h⟩)) (by rw [x4])) d_nil))) (sz (by simp)))) ?_
  refine css_if (k := false) (CT.eq (t_not (t_val (c_call (d := .bl true) F_law_is3 (hr.mono (by decide)) (d_cons (c_var 3) (d_cons (CN.ce (n_lst (d_cons (c_tup (d_cons (c_tup (d_cons c_int (d_cons c_int (d_cons c_int d_nil))) (sz (by simp))) (d_cons (c_tup (d_cons c_int (d_cons c_int (d_cons c_int d_nil))) (sz (by simp))) d_nil)) (sz (by simp))) (d_cons (c_tup (d_cons c_int (d_cons c_int (d_cons c_int d_nil))) (sz (by simp))) (d_cons c_int d_nil))) (sz (by simp)))) d_nil))
    (fun R h => ⟨_, _, rfl, ⟨_, rfl, by decide +kernel, rfl⟩, h⟩)))) rfl) (fun hc => Bool.noConfusion hc) (fun _ => css_nil ?_)
  refine css_for (T := .nm 4) B (ci_range1 T.range c_int (by decide)) (tg_nm 4 B.nd) (fun i ρ => ∃ (h : Hd) (td sd : Sl) (a b : Sl), ρ = [.dat (.frl (ns.map D.int)), .mut q h.ds, td, sd, a, b]) ⟨Hd.new _ ns, _, _, _, _, rfl⟩ (fun i d ρ hd hJ => ?_) (fun ρ hJ => ?_)
  · obtain ⟨_, rfl⟩ := rangeD_inv hd
    obtain ⟨h, td, sd, a, b, rfl⟩ := hJ
    refine ⟨_, .nm, ?_⟩
    refine css_asgD 5 B (q_hand 1 F_law_ladder (hr.mono (by decide)) rfl d_nil rfl ⟨q, h.ds, [], rfl, h, rfl, rfl, fun l h1 lad hl60 => ⟨_, _, rfl, rfl, ?_⟩⟩)
    refine css_ifQ (qt_w (qw_or (qt_not (qt_val (q_hand 1 F_law_is_right (hr.mono (by decide)) rfl (d_cons (c_var 5) d_nil) rfl ⟨q, h1.ds, [.tup (l.map D.int)], rfl, h1, l, rfl, rfl, lad, hl60, fun h2 => ⟨_, _, rfl, rfl, true, rfl, fun z => (by cases z), fun _ => ?_⟩⟩)))))
    refine qw_or1 (qt_not (qt_val (q_hand 1 F_law_is_number_right (hr.mono (by decide)) rfl (d_cons (c_var 5) d_nil) rfl ⟨q, h2.ds, [.tup (l.map D.int)], rfl, h2, l, rfl, rfl, lad, hl60, fun h3 => ⟨_, _, rfl, rfl, true, rfl, fun z => (by cases z), fun _ => ?_⟩⟩)))
    refine css_nil ?_
    refine css_ifQ (qt_not (qt_val (q_hand 1 F_law_are_refused (hr.mono (by decide)) rfl (d_cons (c_var 5) d_nil) rfl ⟨q, h3.ds, [.tup (l.map D.int)], rfl, h3, l, rfl, rfl, lad, hl60, fun h4 => ⟨_, _, rfl, rfl, true, rfl, fun z => (by cases z), fun _ => ?_⟩⟩)))
    exact css_nil (css_nil ⟨h4, _, _, _, _, rfl⟩)
  · obtain ⟨h, td, sd, a, b, rfl⟩ := hJ
    exact css_ret c_bl rfl
end KK
end

section
set_option Elab.async false
set_option linter.all false
set_option maxRecDepth 100000
set_option maxHeartbeats 4000000
namespace KK
open PySem PySem.Spec PyProof.Rows L2 VL VLH LamX
abbrev s_init_BadCoins : Stmt := match topS 9 with
  | .ClassDef _ _ _ (b :: _) .. => b
  | s => s
theorem sc_init_BadCoins : FnScope (["self", "at"] : List Str) (["self", "at"] : List Str) (defScope s_init_BadCoins) := ⟨rfl, rfl, rfl, by decide +kernel, rfl, by decide +kernel, by decide +kernel⟩
theorem all_mk {l : PySem.W.OpenLaw} {w : World} {K : PySem.W.Frag} {h : Heap} {mg : Str → Option Value} {fa : Addr} (X : K.In h) (G : h.Ns mainGlobals mg) (hfa : mg "law" = some (.ref fa)) (mM_MOST_COIN : ∃ t, mg "MOST_COIN" = some (.int c_MOST_COIN t))
    {f1 : Addr} {od1 an1 : Option Addr} {sl1 : Array (Option Value)} {oc1 kV1 dc1 pm1 cd1 ct1 : Value}
    {f2 : Addr} {od2 an2 : Option Addr} {sl2 : Array (Option Value)} {oc2 kV2 dc2 pm2 cd2 ct2 : Value}
    {f3 : Addr} {od3 an3 : Option Addr} {sl3 : Array (Option Value)} {oc3 kV3 dc3 pm3 cd3 ct3 : Value}
    {f4 : Addr} {od4 an4 : Option Addr} {sl4 : Array (Option Value)} {oc4 kV4 dc4 pm4 cd4 ct4 : Value}
    {f13 : Addr} {od13 an13 : Option Addr} {sl13 : Array (Option Value)} {oc13 kV13 dc13 pm13 cd13 ct13 : Value}
    {f14 : Addr} {od14 an14 : Option Addr} {sl14 : Array (Option Value)} {oc14 kV14 dc14 pm14 cd14 ct14 : Value}
    {f15 : Addr} {od15 an15 : Option Addr} {sl15 : Array (Option Value)} {oc15 kV15 dc15 pm15 cd15 ct15 : Value}
    {f16 : Addr} {od16 an16 : Option Addr} {sl16 : Array (Option Value)} {oc16 kV16 dc16 pm16 cd16 ct16 : Value}
    {f17 : Addr} {od17 an17 : Option Addr} {sl17 : Array (Option Value)} {oc17 kV17 dc17 pm17 cd17 ct17 : Value}
    {f18 : Addr} {od18 an18 : Option Addr} {sl18 : Array (Option Value)} {oc18 kV18 dc18 pm18 cd18 ct18 : Value}
    {f19 : Addr} {od19 an19 : Option Addr} {sl19 : Array (Option Value)} {oc19 kV19 dc19 pm19 cd19 ct19 : Value}
    {f20 : Addr} {od20 an20 : Option Addr} {sl20 : Array (Option Value)} {oc20 kV20 dc20 pm20 cd20 ct20 : Value}
    {f21 : Addr} {od21 an21 : Option Addr} {sl21 : Array (Option Value)} {oc21 kV21 dc21 pm21 cd21 ct21 : Value}
    {f22 : Addr} {od22 an22 : Option Addr} {sl22 : Array (Option Value)} {oc22 kV22 dc22 pm22 cd22 ct22 : Value}
    {f23 : Addr} {od23 an23 : Option Addr} {sl23 : Array (Option Value)} {oc23 kV23 dc23 pm23 cd23 ct23 : Value}
    {f25 : Addr} {od25 an25 : Option Addr} {sl25 : Array (Option Value)} {oc25 kV25 dc25 pm25 cd25 ct25 : Value}
    {f26 : Addr} {od26 an26 : Option Addr} {sl26 : Array (Option Value)} {oc26 kV26 dc26 pm26 cd26 ct26 : Value}
    {f27 : Addr} {od27 an27 : Option Addr} {sl27 : Array (Option Value)} {oc27 kV27 dc27 pm27 cd27 ct27 : Value}
    {f28 : Addr} {od28 an28 : Option Addr} {sl28 : Array (Option Value)} {oc28 kV28 dc28 pm28 cd28 ct28 : Value}
    {f29 : Addr} {od29 an29 : Option Addr} {sl29 : Array (Option Value)} {oc29 kV29 dc29 pm29 cd29 ct29 : Value}
    {f30 : Addr} {od30 an30 : Option Addr} {sl30 : Array (Option Value)} {oc30 kV30 dc30 pm30 cd30 ct30 : Value}
    {f31 : Addr} {od31 an31 : Option Addr} {sl31 : Array (Option Value)} {oc31 kV31 dc31 pm31 cd31 ct31 : Value}
    {f32 : Addr} {od32 an32 : Option Addr} {sl32 : Array (Option Value)} {oc32 kV32 dc32 pm32 cd32 ct32 : Value}
    {f33 : Addr} {od33 an33 : Option Addr} {sl33 : Array (Option Value)} {oc33 kV33 dc33 pm33 cd33 ct33 : Value}
    {f34 : Addr} {od34 an34 : Option Addr} {sl34 : Array (Option Value)} {oc34 kV34 dc34 pm34 cd34 ct34 : Value}
    {f35 : Addr} {od35 an35 : Option Addr} {sl35 : Array (Option Value)} {oc35 kV35 dc35 pm35 cd35 ct35 : Value}
    {f36 : Addr} {od36 an36 : Option Addr} {sl36 : Array (Option Value)} {oc36 kV36 dc36 pm36 cd36 ct36 : Value}
    {f37 : Addr} {od37 an37 : Option Addr} {sl37 : Array (Option Value)} {oc37 kV37 dc37 pm37 cd37 ct37 : Value}
    {f38 : Addr} {od38 an38 : Option Addr} {sl38 : Array (Option Value)} {oc38 kV38 dc38 pm38 cd38 ct38 : Value}
    {f39 : Addr} {od39 an39 : Option Addr} {sl39 : Array (Option Value)} {oc39 kV39 dc39 pm39 cd39 ct39 : Value}
    {f40 : Addr} {od40 an40 : Option Addr} {sl40 : Array (Option Value)} {oc40 kV40 dc40 pm40 cd40 ct40 : Value}
    {f41 : Addr} {od41 an41 : Option Addr} {sl41 : Array (Option Value)} {oc41 kV41 dc41 pm41 cd41 ct41 : Value}
    {f42 : Addr} {od42 an42 : Option Addr} {sl42 : Array (Option Value)} {oc42 kV42 dc42 pm42  ct42 : Value} {cT42 Pt42 : Addr}
    {f43 : Addr} {od43 an43 : Option Addr} {sl43 : Array (Option Value)} {oc43 kV43 dc43 pm43 cd43 ct43 : Value}
    {aCoinError : Addr}
    {aBadNumber : Addr}
    {aBadPayment : Addr}
    {aBadCoins : Addr}
    {fIBadCoins N0BadCoins : Addr} {nmBadCoins qnBadCoins : Str} {bsBadCoins bmBadCoins : List Value} {snBadCoins : List Str} {subBadCoins : List Value} {abBadCoins : Bool} {colBadCoins : Option Bool} {ddBadCoins : Option Addr} {m0BadCoins m1BadCoins m2BadCoins m3BadCoins m5BadCoins : Option Value} {odIBadCoins anIBadCoins : Option Addr} {slIBadCoins : Array (Option Value)} {ocIBadCoins kVIBadCoins dcIBadCoins pmIBadCoins cdIBadCoins ctIBadCoins : Value}
    (a1 : PySem.W.nsIn K mainGlobals "is_integer" = some (some (.ref f1)))
    (l1 : K.lookup f1 = some ⟨oc1, od1, .func (PySem.W.fnOf "is_integer" "is_integer" (defArgs (topS 1)) (defBody (topS 1)) (defScope (topS 1)) .none kV1 dc1 pm1 an1 cd1 ct1), sl1⟩)
    (c1 : PySem.W.codeIn K cd1 "is_integer" = true)
    (k1 : PySem.W.keepIn K (.ref f1) = true)
    (a2 : PySem.W.nsIn K mainGlobals "is_within" = some (some (.ref f2)))
    (l2 : K.lookup f2 = some ⟨oc2, od2, .func (PySem.W.fnOf "is_within" "is_within" (defArgs (topS 2)) (defBody (topS 2)) (defScope (topS 2)) .none kV2 dc2 pm2 an2 cd2 ct2), sl2⟩)
    (c2 : PySem.W.codeIn K cd2 "is_within" = true)
    (k2 : PySem.W.keepIn K (.ref f2) = true)
    (a3 : PySem.W.nsIn K mainGlobals "is_tuple_of" = some (some (.ref f3)))
    (l3 : K.lookup f3 = some ⟨oc3, od3, .func (PySem.W.fnOf "is_tuple_of" "is_tuple_of" (defArgs (topS 3)) (defBody (topS 3)) (defScope (topS 3)) .none kV3 dc3 pm3 an3 cd3 ct3), sl3⟩)
    (c3 : PySem.W.codeIn K cd3 "is_tuple_of" = true)
    (k3 : PySem.W.keepIn K (.ref f3) = true)
    (a4 : PySem.W.nsIn K mainGlobals "are_counts" = some (some (.ref f4)))
    (l4 : K.lookup f4 = some ⟨oc4, od4, .func (PySem.W.fnOf "are_counts" "are_counts" (defArgs (topS 4)) (defBody (topS 4)) (defScope (topS 4)) .none kV4 dc4 pm4 an4 cd4 ct4), sl4⟩)
    (c4 : PySem.W.codeIn K cd4 "are_counts" = true)
    (k4 : PySem.W.keepIn K (.ref f4) = true)
    (a13 : PySem.W.nsIn K mainGlobals "check_ladder" = some (some (.ref f13)))
    (l13 : K.lookup f13 = some ⟨oc13, od13, .func (PySem.W.fnOf "check_ladder" "check_ladder" (defArgs (topS 13)) (defBody (topS 13)) (defScope (topS 13)) .none kV13 dc13 pm13 an13 cd13 ct13), sl13⟩)
    (c13 : PySem.W.codeIn K cd13 "check_ladder" = true)
    (k13 : PySem.W.keepIn K (.ref f13) = true)
    (a14 : PySem.W.nsIn K mainGlobals "digits_of" = some (some (.ref f14)))
    (l14 : K.lookup f14 = some ⟨oc14, od14, .func (PySem.W.fnOf "digits_of" "digits_of" (defArgs (topS 14)) (defBody (topS 14)) (defScope (topS 14)) .none kV14 dc14 pm14 an14 cd14 ct14), sl14⟩)
    (c14 : PySem.W.codeIn K cd14 "digits_of" = true)
    (k14 : PySem.W.keepIn K (.ref f14) = true)
    (a15 : PySem.W.nsIn K mainGlobals "check_amount" = some (some (.ref f15)))
    (l15 : K.lookup f15 = some ⟨oc15, od15, .func (PySem.W.fnOf "check_amount" "check_amount" (defArgs (topS 15)) (defBody (topS 15)) (defScope (topS 15)) .none kV15 dc15 pm15 an15 cd15 ct15), sl15⟩)
    (c15 : PySem.W.codeIn K cd15 "check_amount" = true)
    (k15 : PySem.W.keepIn K (.ref f15) = true)
    (a16 : PySem.W.nsIn K mainGlobals "digits" = some (some (.ref f16)))
    (l16 : K.lookup f16 = some ⟨oc16, od16, .func (PySem.W.fnOf "digits" "digits" (defArgs (topS 16)) (defBody (topS 16)) (defScope (topS 16)) .none kV16 dc16 pm16 an16 cd16 ct16), sl16⟩)
    (c16 : PySem.W.codeIn K cd16 "digits" = true)
    (k16 : PySem.W.keepIn K (.ref f16) = true)
    (a17 : PySem.W.nsIn K mainGlobals "check_digits" = some (some (.ref f17)))
    (l17 : K.lookup f17 = some ⟨oc17, od17, .func (PySem.W.fnOf "check_digits" "check_digits" (defArgs (topS 17)) (defBody (topS 17)) (defScope (topS 17)) .none kV17 dc17 pm17 an17 cd17 ct17), sl17⟩)
    (c17 : PySem.W.codeIn K cd17 "check_digits" = true)
    (k17 : PySem.W.keepIn K (.ref f17) = true)
    (a18 : PySem.W.nsIn K mainGlobals "amount_of" = some (some (.ref f18)))
    (l18 : K.lookup f18 = some ⟨oc18, od18, .func (PySem.W.fnOf "amount_of" "amount_of" (defArgs (topS 18)) (defBody (topS 18)) (defScope (topS 18)) .none kV18 dc18 pm18 an18 cd18 ct18), sl18⟩)
    (c18 : PySem.W.codeIn K cd18 "amount_of" = true)
    (k18 : PySem.W.keepIn K (.ref f18) = true)
    (a19 : PySem.W.nsIn K mainGlobals "amount" = some (some (.ref f19)))
    (l19 : K.lookup f19 = some ⟨oc19, od19, .func (PySem.W.fnOf "amount" "amount" (defArgs (topS 19)) (defBody (topS 19)) (defScope (topS 19)) .none kV19 dc19 pm19 an19 cd19 ct19), sl19⟩)
    (c19 : PySem.W.codeIn K cd19 "amount" = true)
    (k19 : PySem.W.keepIn K (.ref f19) = true)
    (a20 : PySem.W.nsIn K mainGlobals "is_digits" = some (some (.ref f20)))
    (l20 : K.lookup f20 = some ⟨oc20, od20, .func (PySem.W.fnOf "is_digits" "is_digits" (defArgs (topS 20)) (defBody (topS 20)) (defScope (topS 20)) .none kV20 dc20 pm20 an20 cd20 ct20), sl20⟩)
    (c20 : PySem.W.codeIn K cd20 "is_digits" = true)
    (k20 : PySem.W.keepIn K (.ref f20) = true)
    (a21 : PySem.W.nsIn K mainGlobals "carried" = some (some (.ref f21)))
    (l21 : K.lookup f21 = some ⟨oc21, od21, .func (PySem.W.fnOf "carried" "carried" (defArgs (topS 21)) (defBody (topS 21)) (defScope (topS 21)) .none kV21 dc21 pm21 an21 cd21 ct21), sl21⟩)
    (c21 : PySem.W.codeIn K cd21 "carried" = true)
    (k21 : PySem.W.keepIn K (.ref f21) = true)
    (a22 : PySem.W.nsIn K mainGlobals "sum_digits" = some (some (.ref f22)))
    (l22 : K.lookup f22 = some ⟨oc22, od22, .func (PySem.W.fnOf "sum_digits" "sum_digits" (defArgs (topS 22)) (defBody (topS 22)) (defScope (topS 22)) .none kV22 dc22 pm22 an22 cd22 ct22), sl22⟩)
    (c22 : PySem.W.codeIn K cd22 "sum_digits" = true)
    (k22 : PySem.W.keepIn K (.ref f22) = true)
    (a23 : PySem.W.nsIn K mainGlobals "carries_number" = some (some (.ref f23)))
    (l23 : K.lookup f23 = some ⟨oc23, od23, .func (PySem.W.fnOf "carries_number" "carries_number" (defArgs (topS 23)) (defBody (topS 23)) (defScope (topS 23)) .none kV23 dc23 pm23 an23 cd23 ct23), sl23⟩)
    (c23 : PySem.W.codeIn K cd23 "carries_number" = true)
    (k23 : PySem.W.keepIn K (.ref f23) = true)
    (a25 : PySem.W.nsIn K mainGlobals "_law_hand" = some (some (.ref f25)))
    (l25 : K.lookup f25 = some ⟨oc25, od25, .func (PySem.W.fnOf "_law_hand" "_law_hand" (defArgs (topS 25)) (defBody (topS 25)) (defScope (topS 25)) .none kV25 dc25 pm25 an25 cd25 ct25), sl25⟩)
    (c25 : PySem.W.codeIn K cd25 "_law_hand" = true)
    (k25 : PySem.W.keepIn K (.ref f25) = true)
    (a26 : PySem.W.nsIn K mainGlobals "_law_draw" = some (some (.ref f26)))
    (l26 : K.lookup f26 = some ⟨oc26, od26, .func (PySem.W.fnOf "_law_draw" "_law_draw" (defArgs (topS 26)) (defBody (topS 26)) (defScope (topS 26)) .none kV26 dc26 pm26 an26 cd26 ct26), sl26⟩)
    (c26 : PySem.W.codeIn K cd26 "_law_draw" = true)
    (k26 : PySem.W.keepIn K (.ref f26) = true)
    (a27 : PySem.W.nsIn K mainGlobals "_law_any" = some (some (.ref f27)))
    (l27 : K.lookup f27 = some ⟨oc27, od27, .func (PySem.W.fnOf "_law_any" "_law_any" (defArgs (topS 27)) (defBody (topS 27)) (defScope (topS 27)) .none kV27 dc27 pm27 an27 cd27 ct27), sl27⟩)
    (c27 : PySem.W.codeIn K cd27 "_law_any" = true)
    (k27 : PySem.W.keepIn K (.ref f27) = true)
    (a28 : PySem.W.nsIn K mainGlobals "_law_is" = some (some (.ref f28)))
    (l28 : K.lookup f28 = some ⟨oc28, od28, .func (PySem.W.fnOf "_law_is" "_law_is" (defArgs (topS 28)) (defBody (topS 28)) (defScope (topS 28)) .none kV28 dc28 pm28 an28 cd28 ct28), sl28⟩)
    (c28 : PySem.W.codeIn K cd28 "_law_is" = true)
    (k28 : PySem.W.keepIn K (.ref f28) = true)
    (a29 : PySem.W.nsIn K mainGlobals "_law_worth" = some (some (.ref f29)))
    (l29 : K.lookup f29 = some ⟨oc29, od29, .func (PySem.W.fnOf "_law_worth" "_law_worth" (defArgs (topS 29)) (defBody (topS 29)) (defScope (topS 29)) .none kV29 dc29 pm29 an29 cd29 ct29), sl29⟩)
    (c29 : PySem.W.codeIn K cd29 "_law_worth" = true)
    (k29 : PySem.W.keepIn K (.ref f29) = true)
    (a30 : PySem.W.nsIn K mainGlobals "_law_deep" = some (some (.ref f30)))
    (l30 : K.lookup f30 = some ⟨oc30, od30, .func (PySem.W.fnOf "_law_deep" "_law_deep" (defArgs (topS 30)) (defBody (topS 30)) (defScope (topS 30)) .none kV30 dc30 pm30 an30 cd30 ct30), sl30⟩)
    (c30 : PySem.W.codeIn K cd30 "_law_deep" = true)
    (k30 : PySem.W.keepIn K (.ref f30) = true)
    (a31 : PySem.W.nsIn K mainGlobals "_law_top" = some (some (.ref f31)))
    (l31 : K.lookup f31 = some ⟨oc31, od31, .func (PySem.W.fnOf "_law_top" "_law_top" (defArgs (topS 31)) (defBody (topS 31)) (defScope (topS 31)) .none kV31 dc31 pm31 an31 cd31 ct31), sl31⟩)
    (c31 : PySem.W.codeIn K cd31 "_law_top" = true)
    (k31 : PySem.W.keepIn K (.ref f31) = true)
    (a32 : PySem.W.nsIn K mainGlobals "_law_ladder" = some (some (.ref f32)))
    (l32 : K.lookup f32 = some ⟨oc32, od32, .func (PySem.W.fnOf "_law_ladder" "_law_ladder" (defArgs (topS 32)) (defBody (topS 32)) (defScope (topS 32)) .none kV32 dc32 pm32 an32 cd32 ct32), sl32⟩)
    (c32 : PySem.W.codeIn K cd32 "_law_ladder" = true)
    (k32 : PySem.W.keepIn K (.ref f32) = true)
    (a33 : PySem.W.nsIn K mainGlobals "_law_number" = some (some (.ref f33)))
    (l33 : K.lookup f33 = some ⟨oc33, od33, .func (PySem.W.fnOf "_law_number" "_law_number" (defArgs (topS 33)) (defBody (topS 33)) (defScope (topS 33)) .none kV33 dc33 pm33 an33 cd33 ct33), sl33⟩)
    (c33 : PySem.W.codeIn K cd33 "_law_number" = true)
    (k33 : PySem.W.keepIn K (.ref f33) = true)
    (a34 : PySem.W.nsIn K mainGlobals "_law_digits" = some (some (.ref f34)))
    (l34 : K.lookup f34 = some ⟨oc34, od34, .func (PySem.W.fnOf "_law_digits" "_law_digits" (defArgs (topS 34)) (defBody (topS 34)) (defScope (topS 34)) .none kV34 dc34 pm34 an34 cd34 ct34), sl34⟩)
    (c34 : PySem.W.codeIn K cd34 "_law_digits" = true)
    (k34 : PySem.W.keepIn K (.ref f34) = true)
    (a35 : PySem.W.nsIn K mainGlobals "_law_no_coins" = some (some (.ref f35)))
    (l35 : K.lookup f35 = some ⟨oc35, od35, .func (PySem.W.fnOf "_law_no_coins" "_law_no_coins" (defArgs (topS 35)) (defBody (topS 35)) (defScope (topS 35)) .none kV35 dc35 pm35 an35 cd35 ct35), sl35⟩)
    (c35 : PySem.W.codeIn K cd35 "_law_no_coins" = true)
    (k35 : PySem.W.keepIn K (.ref f35) = true)
    (a36 : PySem.W.nsIn K mainGlobals "_law_word" = some (some (.ref f36)))
    (l36 : K.lookup f36 = some ⟨oc36, od36, .func (PySem.W.fnOf "_law_word" "_law_word" (defArgs (topS 36)) (defBody (topS 36)) (defScope (topS 36)) .none kV36 dc36 pm36 an36 cd36 ct36), sl36⟩)
    (c36 : PySem.W.codeIn K cd36 "_law_word" = true)
    (k36 : PySem.W.keepIn K (.ref f36) = true)
    (a37 : PySem.W.nsIn K mainGlobals "_law_carried" = some (some (.ref f37)))
    (l37 : K.lookup f37 = some ⟨oc37, od37, .func (PySem.W.fnOf "_law_carried" "_law_carried" (defArgs (topS 37)) (defBody (topS 37)) (defScope (topS 37)) .none kV37 dc37 pm37 an37 cd37 ct37), sl37⟩)
    (c37 : PySem.W.codeIn K cd37 "_law_carried" = true)
    (k37 : PySem.W.keepIn K (.ref f37) = true)
    (a38 : PySem.W.nsIn K mainGlobals "_law_counts" = some (some (.ref f38)))
    (l38 : K.lookup f38 = some ⟨oc38, od38, .func (PySem.W.fnOf "_law_counts" "_law_counts" (defArgs (topS 38)) (defBody (topS 38)) (defScope (topS 38)) .none kV38 dc38 pm38 an38 cd38 ct38), sl38⟩)
    (c38 : PySem.W.codeIn K cd38 "_law_counts" = true)
    (k38 : PySem.W.keepIn K (.ref f38) = true)
    (a39 : PySem.W.nsIn K mainGlobals "_law_weighed" = some (some (.ref f39)))
    (l39 : K.lookup f39 = some ⟨oc39, od39, .func (PySem.W.fnOf "_law_weighed" "_law_weighed" (defArgs (topS 39)) (defBody (topS 39)) (defScope (topS 39)) .none kV39 dc39 pm39 an39 cd39 ct39), sl39⟩)
    (c39 : PySem.W.codeIn K cd39 "_law_weighed" = true)
    (k39 : PySem.W.keepIn K (.ref f39) = true)
    (a40 : PySem.W.nsIn K mainGlobals "_law_is_right" = some (some (.ref f40)))
    (l40 : K.lookup f40 = some ⟨oc40, od40, .func (PySem.W.fnOf "_law_is_right" "_law_is_right" (defArgs (topS 40)) (defBody (topS 40)) (defScope (topS 40)) .none kV40 dc40 pm40 an40 cd40 ct40), sl40⟩)
    (c40 : PySem.W.codeIn K cd40 "_law_is_right" = true)
    (k40 : PySem.W.keepIn K (.ref f40) = true)
    (a41 : PySem.W.nsIn K mainGlobals "_law_is_number_right" = some (some (.ref f41)))
    (l41 : K.lookup f41 = some ⟨oc41, od41, .func (PySem.W.fnOf "_law_is_number_right" "_law_is_number_right" (defArgs (topS 41)) (defBody (topS 41)) (defScope (topS 41)) .none kV41 dc41 pm41 an41 cd41 ct41), sl41⟩)
    (c41 : PySem.W.codeIn K cd41 "_law_is_number_right" = true)
    (k41 : PySem.W.keepIn K (.ref f41) = true)
    (a42 : PySem.W.nsIn K mainGlobals "_law_are_refused" = some (some (.ref f42)))
    (l42 : K.lookup f42 = some ⟨oc42, od42, .func (PySem.W.fnOf "_law_are_refused" "_law_are_refused" (defArgs (topS 42)) (defBody (topS 42)) (defScope (topS 42)) .none kV42 dc42 pm42 an42 (.ref cT42) ct42), sl42⟩)
    (c42 : PySem.W.codeIn K (.ref cT42) "_law_are_refused" = true)
    (k42 : PySem.W.keepIn K (.ref f42) = true)
    (a43 : PySem.W.nsIn K mainGlobals "law" = some (some (.ref f43)))
    (l43 : K.lookup f43 = some ⟨oc43, od43, .func (PySem.W.fnOf "law" "law" (defArgs (topS 43)) (defBody (topS 43)) (defScope (topS 43)) .none kV43 dc43 pm43 an43 cd43 ct43), sl43⟩)
    (c43 : PySem.W.codeIn K cd43 "law" = true)
    (k43 : PySem.W.keepIn K (.ref f43) = true)
    (nCoinError : PySem.W.nsIn K mainGlobals "CoinError" = some (some (.ref aCoinError)))
    (nBadNumber : PySem.W.nsIn K mainGlobals "BadNumber" = some (some (.ref aBadNumber)))
    (qBadNumber : PySem.W.excIn K aBadNumber [.type "ValueError", .type "Exception", .type "BaseException", .type "object"] "ValueError.__new__" = true)
    (kBadNumber : PySem.W.keepIn K (.ref aBadNumber) = true)
    (sBadNumber : PySem.W.subIn K (.ref aBadNumber) (.type "BaseException") = some true)
    (tBadNumber : PySem.W.typeIn K (.ref aBadNumber) = some (.type "type"))
    (nBadPayment : PySem.W.nsIn K mainGlobals "BadPayment" = some (some (.ref aBadPayment)))
    (qBadPayment : PySem.W.excIn K aBadPayment [.type "ValueError", .type "Exception", .type "BaseException", .type "object"] "ValueError.__new__" = true)
    (kBadPayment : PySem.W.keepIn K (.ref aBadPayment) = true)
    (sBadPayment : PySem.W.subIn K (.ref aBadPayment) (.type "BaseException") = some true)
    (tBadPayment : PySem.W.typeIn K (.ref aBadPayment) = some (.type "type"))
    (nBadCoins : PySem.W.nsIn K mainGlobals "BadCoins" = some (some (.ref aBadCoins)))
    (xLBadCoins : K.lookup aBadCoins = some (excClassObj nmBadCoins qnBadCoins aBadCoins N0BadCoins bsBadCoins bmBadCoins true snBadCoins subBadCoins abBadCoins colBadCoins ddBadCoins m0BadCoins m1BadCoins m2BadCoins m3BadCoins m5BadCoins "ValueError.__new__"))
    (hbmBadCoins : PySem.HandSPX.refsVE bmBadCoins = true)
    (saBadCoins : PySem.W.findIn K (.ref aBadCoins) "__setattr__" = some (some (.builtin "object.__setattr__")))
    (sBadCoins : PySem.W.subIn K (.ref aBadCoins) (.type "BaseException") = some true)
    (tBadCoins : PySem.W.typeIn K (.ref aBadCoins) = some (.type "type"))
    (kBadCoins : PySem.W.keepIn K (.ref aBadCoins) = true)
    (atBadCoins : PySem.W.findIn K (.ref aBadCoins) "at" = some none)
    (iBadCoins : PySem.W.findIn K (.ref aBadCoins) "__init__" = some (some (.ref fIBadCoins)))
    (tIBadCoins : PySem.W.typeIn K (.ref fIBadCoins) = some (.type "function"))
    (lIBadCoins : K.lookup fIBadCoins = some ⟨ocIBadCoins, odIBadCoins, .func (PySem.W.fnOf "__init__" "BadCoins.__init__" (defArgs s_init_BadCoins) (defBody s_init_BadCoins) (defScope s_init_BadCoins) .none kVIBadCoins dcIBadCoins pmIBadCoins anIBadCoins cdIBadCoins ctIBadCoins), slIBadCoins⟩)
    (cIBadCoins : PySem.W.codeIn K cdIBadCoins "BadCoins.__init__" = true)
    (kIBadCoins : PySem.W.keepIn K (.ref fIBadCoins) = true)
    (w_ve : PySem.W.nsIn K mainGlobals "ValueError" = some none)
    (w_x_BadCoins : PySem.W.exmOne K (.ref aBadCoins) (.ref aCoinError) = some true)
    (w_v_BadCoins : PySem.W.kitOne K (.ref aBadCoins) (.type "ValueError") = some true)
    (w_e_BadCoins : excDB K aBadCoins = true)
    (w_k_BadCoins_BadCoins : PySem.W.kitOne K (.ref aBadCoins) (.ref aBadCoins) = some true)
    (w_k_BadCoins_BadNumber : PySem.W.kitOne K (.ref aBadCoins) (.ref aBadNumber) = some false)
    (w_k_BadCoins_BadPayment : PySem.W.kitOne K (.ref aBadCoins) (.ref aBadPayment) = some false)
    (w_x_BadNumber : PySem.W.exmOne K (.ref aBadNumber) (.ref aCoinError) = some true)
    (w_v_BadNumber : PySem.W.kitOne K (.ref aBadNumber) (.type "ValueError") = some true)
    (w_e_BadNumber : excDB K aBadNumber = true)
    (w_k_BadNumber_BadCoins : PySem.W.kitOne K (.ref aBadNumber) (.ref aBadCoins) = some false)
    (w_k_BadNumber_BadNumber : PySem.W.kitOne K (.ref aBadNumber) (.ref aBadNumber) = some true)
    (w_k_BadNumber_BadPayment : PySem.W.kitOne K (.ref aBadNumber) (.ref aBadPayment) = some false)
    (w_x_BadPayment : PySem.W.exmOne K (.ref aBadPayment) (.ref aCoinError) = some true)
    (w_v_BadPayment : PySem.W.kitOne K (.ref aBadPayment) (.type "ValueError") = some true)
    (w_e_BadPayment : excDB K aBadPayment = true)
    (w_k_BadPayment_BadCoins : PySem.W.kitOne K (.ref aBadPayment) (.ref aBadCoins) = some false)
    (w_k_BadPayment_BadNumber : PySem.W.kitOne K (.ref aBadPayment) (.ref aBadNumber) = some false)
    (w_k_BadPayment_BadPayment : PySem.W.kitOne K (.ref aBadPayment) (.ref aBadPayment) = some true)
    (w_fC : xfB K aBadCoins = true)
    (tab42 : PySem.W.tabIn K "_law_are_refused" = some (cT42, Pt42))
    (nP42 : K.lookup Pt42 = none)
    (z_ValueError : PySem.W.nsIn K mainGlobals "ValueError" = some none)
    (z_abs : PySem.W.nsIn K mainGlobals "abs" = some none)
    (z_all : PySem.W.nsIn K mainGlobals "all" = some none)
    (z_any : PySem.W.nsIn K mainGlobals "any" = some none)
    (z_bool : PySem.W.nsIn K mainGlobals "bool" = some none)
    (z_enumerate : PySem.W.nsIn K mainGlobals "enumerate" = some none)
    (z_int : PySem.W.nsIn K mainGlobals "int" = some none)
    (z_isinstance : PySem.W.nsIn K mainGlobals "isinstance" = some none)
    (z_len : PySem.W.nsIn K mainGlobals "len" = some none)
    (z_list : PySem.W.nsIn K mainGlobals "list" = some none)
    (z_max : PySem.W.nsIn K mainGlobals "max" = some none)
    (z_range : PySem.W.nsIn K mainGlobals "range" = some none)
    (z_str : PySem.W.nsIn K mainGlobals "str" = some none)
    (z_sum : PySem.W.nsIn K mainGlobals "sum" = some none)
    (z_tuple : PySem.W.nsIn K mainGlobals "tuple" = some none)
    (z_zip : PySem.W.nsIn K mainGlobals "zip" = some none)
    (m_MOST_COINS : ∃ t, PySem.W.nsIn K mainGlobals "MOST_COINS" = some (some (.int 60 t)))
    (hT42 : PySem.W.tabIn K "_law_are_refused" = some (cT42, Pt42) → PySem.W.CodeHd h cT42 Pt42 ∧ h.get? Pt42 = some (PySem.W.tabObj #[])) (hP42 : (Pt42, ("_law_are_refused.<locals>.<lambda>" : Str)) ∈ lamT) (hu42 : ∀ p ∈ lamT, p.1 = Pt42 → p.2 = ("_law_are_refused.<locals>.<lambda>" : Str))
    (hcov : ∀ p ∈ lamT, p.1 ∈ ([Pt42] : List Addr)) :
    ∃ (fd : FuncData) (cs : List (Addr × Addr)), (∀ p ∈ cs, h.get? p.2 = some { cls := .none, data := .fields #[] }) ∧ (∀ p ∈ cs, K.lookup p.2 = none) ∧ (∀ p ∈ cs, PySem.W.CodeHd h p.1 p.2) ∧ (∀ p ∈ lamT, p.1 ∈ cs.map (·.2)) ∧
      (∀ (s : Shared) (u : Value), BindsTo s fd ⟨[u], []⟩ [("script", u)]) ∧ ∀ base : Heap, K.In base → base.Ns mainGlobals mg → (∀ p ∈ cs, TabB base mg p.1 p.2) → FnOk l.prog w K mg base (L2N.CX l.prog w) 8 fa fd ["script"] (spV K (detS A_script)) := by
  have e := hfa.symm.trans (PySem.W.mg_of X G a43)
  cases e
  obtain ⟨hcA42, hcB42⟩ := hT42 tab42
  have G1 := PySem.W.mg_of X G a1
  have F1 := fun_mk (st := topS 1) l1 c1 k1
  have b1 := F1.binds (ps := ["thing"]) fun _ _ _ _ _ _ us hl => match us, hl with | [_], _ => rfl
  have G2 := PySem.W.mg_of X G a2
  have F2 := fun_mk (st := topS 2) l2 c2 k2
  have b2 := F2.binds (ps := ["thing", "low", "high"]) fun _ _ _ _ _ _ us hl => match us, hl with | [_, _, _], _ => rfl
  have G3 := PySem.W.mg_of X G a3
  have F3 := fun_mk (st := topS 3) l3 c3 k3
  have b3 := F3.binds (ps := ["thing", "many"]) fun _ _ _ _ _ _ us hl => match us, hl with | [_, _], _ => rfl
  have G4 := PySem.W.mg_of X G a4
  have F4 := fun_mk (st := topS 4) l4 c4 k4
  have b4 := F4.binds (ps := ["thing", "many"]) fun _ _ _ _ _ _ us hl => match us, hl with | [_, _], _ => rfl
  have G13 := PySem.W.mg_of X G a13
  have F13 := fun_mk (st := topS 13) l13 c13 k13
  have b13 := F13.binds (ps := ["coins"]) fun _ _ _ _ _ _ us hl => match us, hl with | [_], _ => rfl
  have G14 := PySem.W.mg_of X G a14
  have F14 := fun_mk (st := topS 14) l14 c14 k14
  have b14 := F14.binds (ps := ["coins", "number"]) fun _ _ _ _ _ _ us hl => match us, hl with | [_, _], _ => rfl
  have G15 := PySem.W.mg_of X G a15
  have F15 := fun_mk (st := topS 15) l15 c15 k15
  have b15 := F15.binds (ps := ["number"]) fun _ _ _ _ _ _ us hl => match us, hl with | [_], _ => rfl
  have G16 := PySem.W.mg_of X G a16
  have F16 := fun_mk (st := topS 16) l16 c16 k16
  have b16 := F16.binds (ps := ["coins", "number"]) fun _ _ _ _ _ _ us hl => match us, hl with | [_, _], _ => rfl
  have G17 := PySem.W.mg_of X G a17
  have F17 := fun_mk (st := topS 17) l17 c17 k17
  have b17 := F17.binds (ps := ["coins", "counts"]) fun _ _ _ _ _ _ us hl => match us, hl with | [_, _], _ => rfl
  have G18 := PySem.W.mg_of X G a18
  have F18 := fun_mk (st := topS 18) l18 c18 k18
  have b18 := F18.binds (ps := ["coins", "counts"]) fun _ _ _ _ _ _ us hl => match us, hl with | [_, _], _ => rfl
  have G19 := PySem.W.mg_of X G a19
  have F19 := fun_mk (st := topS 19) l19 c19 k19
  have b19 := F19.binds (ps := ["coins", "counts"]) fun _ _ _ _ _ _ us hl => match us, hl with | [_, _], _ => rfl
  have G20 := PySem.W.mg_of X G a20
  have F20 := fun_mk (st := topS 20) l20 c20 k20
  have b20 := F20.binds (ps := ["coins", "thing"]) fun _ _ _ _ _ _ us hl => match us, hl with | [_, _], _ => rfl
  have G21 := PySem.W.mg_of X G a21
  have F21 := fun_mk (st := topS 21) l21 c21 k21
  have b21 := F21.binds (ps := ["coins", "counts"]) fun _ _ _ _ _ _ us hl => match us, hl with | [_, _], _ => rfl
  have G22 := PySem.W.mg_of X G a22
  have F22 := fun_mk (st := topS 22) l22 c22 k22
  have b22 := F22.binds (ps := ["coins", "one", "other"]) fun _ _ _ _ _ _ us hl => match us, hl with | [_, _, _], _ => rfl
  have G23 := PySem.W.mg_of X G a23
  have F23 := fun_mk (st := topS 23) l23 c23 k23
  have b23 := F23.binds (ps := ["coins", "one", "other"]) fun _ _ _ _ _ _ us hl => match us, hl with | [_, _, _], _ => rfl
  have G25 := PySem.W.mg_of X G a25
  have F25 := fun_mk (st := topS 25) l25 c25 k25
  have b25 := F25.binds (ps := ["script"]) fun _ _ _ _ _ _ us hl => match us, hl with | [_], _ => rfl
  have G26 := PySem.W.mg_of X G a26
  have F26 := fun_mk (st := topS 26) l26 c26 k26
  have b26 := F26.binds (ps := ["hand", "many"]) fun _ _ _ _ _ _ us hl => match us, hl with | [_, _], _ => rfl
  have G27 := PySem.W.mg_of X G a27
  have F27 := fun_mk (st := topS 27) l27 c27 k27
  have b27 := F27.binds (ps := ["hand", "some"]) fun _ _ _ _ _ _ us hl => match us, hl with | [_, _], _ => rfl
  have G28 := PySem.W.mg_of X G a28
  have F28 := fun_mk (st := topS 28) l28 c28 k28
  have b28 := F28.binds (ps := ["said", "due"]) fun _ _ _ _ _ _ us hl => match us, hl with | [_, _], _ => rfl
  have G29 := PySem.W.mg_of X G a29
  have F29 := fun_mk (st := topS 29) l29 c29 k29
  have b29 := F29.binds (ps := ["coins", "counts"]) fun _ _ _ _ _ _ us hl => match us, hl with | [_, _], _ => rfl
  have G30 := PySem.W.mg_of X G a30
  have F30 := fun_mk (st := topS 30) l30 c30 k30
  have b30 := F30.binds (ps := ["hand"]) fun _ _ _ _ _ _ us hl => match us, hl with | [_], _ => rfl
  have G31 := PySem.W.mg_of X G a31
  have F31 := fun_mk (st := topS 31) l31 c31 k31
  have b31 := F31.binds (ps := ["often"]) fun _ _ _ _ _ _ us hl => match us, hl with | [_], _ => rfl
  have G32 := PySem.W.mg_of X G a32
  have F32 := fun_mk (st := topS 32) l32 c32 k32
  have b32 := F32.binds (ps := ["hand"]) fun _ _ _ _ _ _ us hl => match us, hl with | [_], _ => rfl
  have G33 := PySem.W.mg_of X G a33
  have F33 := fun_mk (st := topS 33) l33 c33 k33
  have b33 := F33.binds (ps := ["hand"]) fun _ _ _ _ _ _ us hl => match us, hl with | [_], _ => rfl
  have G34 := PySem.W.mg_of X G a34
  have F34 := fun_mk (st := topS 34) l34 c34 k34
  have b34 := F34.binds (ps := ["coins", "number"]) fun _ _ _ _ _ _ us hl => match us, hl with | [_, _], _ => rfl
  have G35 := PySem.W.mg_of X G a35
  have F35 := fun_mk (st := topS 35) l35 c35 k35
  have b35 := F35.binds (ps := ["hand", "coins"]) fun _ _ _ _ _ _ us hl => match us, hl with | [_, _], _ => rfl
  have G36 := PySem.W.mg_of X G a36
  have F36 := fun_mk (st := topS 36) l36 c36 k36
  have b36 := F36.binds (ps := ["call"]) fun _ _ _ _ _ _ us hl => match us, hl with | [_], _ => rfl
  have G37 := PySem.W.mg_of X G a37
  have F37 := fun_mk (st := topS 37) l37 c37 k37
  have b37 := F37.binds (ps := ["coins", "counts"]) fun _ _ _ _ _ _ us hl => match us, hl with | [_, _], _ => rfl
  have G38 := PySem.W.mg_of X G a38
  have F38 := fun_mk (st := topS 38) l38 c38 k38
  have b38 := F38.binds (ps := ["hand", "coins"]) fun _ _ _ _ _ _ us hl => match us, hl with | [_, _], _ => rfl
  have G39 := PySem.W.mg_of X G a39
  have F39 := fun_mk (st := topS 39) l39 c39 k39
  have b39 := F39.binds (ps := ["coins", "carries"]) fun _ _ _ _ _ _ us hl => match us, hl with | [_, _], _ => rfl
  have G40 := PySem.W.mg_of X G a40
  have F40 := fun_mk (st := topS 40) l40 c40 k40
  have b40 := F40.binds (ps := ["hand", "coins"]) fun _ _ _ _ _ _ us hl => match us, hl with | [_, _], _ => rfl
  have G41 := PySem.W.mg_of X G a41
  have F41 := fun_mk (st := topS 41) l41 c41 k41
  have b41 := F41.binds (ps := ["hand", "coins"]) fun _ _ _ _ _ _ us hl => match us, hl with | [_, _], _ => rfl
  have G42 := PySem.W.mg_of X G a42
  have F42 := fun_mk (st := topS 42) l42 c42 k42
  have b42 := F42.binds (ps := ["hand", "coins"]) fun _ _ _ _ _ _ us hl => match us, hl with | [_, _], _ => rfl
  have G43 := PySem.W.mg_of X G a43
  have F43 := fun_mk (st := topS 43) l43 c43 k43
  have b43 := F43.binds (ps := ["script"]) fun _ _ _ _ _ _ us hl => match us, hl with | [_], _ => rfl
  have Tb : Blt mg := { ValueError := PySem.W.mg_none_of X G z_ValueError, abs := PySem.W.mg_none_of X G z_abs, all := PySem.W.mg_none_of X G z_all, any := PySem.W.mg_none_of X G z_any, bool := PySem.W.mg_none_of X G z_bool, enumerate := PySem.W.mg_none_of X G z_enumerate, int := PySem.W.mg_none_of X G z_int, isinstance := PySem.W.mg_none_of X G z_isinstance, len := PySem.W.mg_none_of X G z_len, list := PySem.W.mg_none_of X G z_list, max := PySem.W.mg_none_of X G z_max, range := PySem.W.mg_none_of X G z_range, str := PySem.W.mg_none_of X G z_str, sum := PySem.W.mg_none_of X G z_sum, tuple := PySem.W.mg_none_of X G z_tuple, zip := PySem.W.mg_none_of X G z_zip, MOST_COINS := m_MOST_COINS.imp fun _ z => PySem.W.mg_of X G z, MOST_COIN := mM_MOST_COIN }
  have TW : Wt K mg aCoinError aBadCoins aBadNumber aBadPayment := { isinstance := Tb.isinstance, len := Tb.len, ce := PySem.W.mg_of X G nCoinError, ve := PySem.W.mg_none_of X G w_ve, g_BadCoins := PySem.W.mg_of X G nBadCoins, x_BadCoins := w_x_BadCoins, v_BadCoins := w_v_BadCoins, e_BadCoins := excDB_ok w_e_BadCoins, k_BadCoins_BadCoins := w_k_BadCoins_BadCoins, k_BadCoins_BadNumber := w_k_BadCoins_BadNumber, k_BadCoins_BadPayment := w_k_BadCoins_BadPayment, g_BadNumber := PySem.W.mg_of X G nBadNumber, x_BadNumber := w_x_BadNumber, v_BadNumber := w_v_BadNumber, e_BadNumber := excDB_ok w_e_BadNumber, k_BadNumber_BadCoins := w_k_BadNumber_BadCoins, k_BadNumber_BadNumber := w_k_BadNumber_BadNumber, k_BadNumber_BadPayment := w_k_BadNumber_BadPayment, g_BadPayment := PySem.W.mg_of X G nBadPayment, x_BadPayment := w_x_BadPayment, v_BadPayment := w_v_BadPayment, e_BadPayment := excDB_ok w_e_BadPayment, k_BadPayment_BadCoins := w_k_BadPayment_BadCoins, k_BadPayment_BadNumber := w_k_BadPayment_BadNumber, k_BadPayment_BadPayment := w_k_BadPayment_BadPayment, fC := xfB_ok w_fC, nC := atBadCoins }
  have sB : ∀ p ∈ ([(cT42, Pt42)] : List (Addr × Addr)), h.get? p.2 = some { cls := .none, data := .fields #[] } := by
    intro p hp
    simp only [List.mem_cons, List.not_mem_nil, or_false] at hp
    rcases hp with rfl
    · exact hcB42
  have sN : ∀ p ∈ ([(cT42, Pt42)] : List (Addr × Addr)), K.lookup p.2 = none := by
    intro p hp
    simp only [List.mem_cons, List.not_mem_nil, or_false] at hp
    rcases hp with rfl
    · exact nP42
  have sA : ∀ p ∈ ([(cT42, Pt42)] : List (Addr × Addr)), PySem.W.CodeHd h p.1 p.2 := by
    intro p hp
    simp only [List.mem_cons, List.not_mem_nil, or_false] at hp
    rcases hp with rfl
    · exact hcA42
  refine ⟨PySem.W.fnOf "law" "law" (defArgs (topS 43)) (defBody (topS 43)) (defScope (topS 43)) .none kV43 dc43 pm43 an43 cd43 ct43, [(cT42, Pt42)], sB, sN, sA, (fun p hp => by have := hcov p hp; simpa using this), fun _ _ => PySem.BindsTo.of_eq rfl, fun base XB GB TBs => ?_⟩
  have E_BadNumber : EX0 l.prog w K mg base "BadNumber" aBadNumber := fun X' e1 e2 e3 e4 e5 => ⟨by rw [e4]; exact PySem.W.mg_of X G nBadNumber, by rw [e3]; exact qBadNumber, by rw [e3]; exact kBadNumber, by rw [e3]; exact sBadNumber, by rw [e3]; exact tBadNumber⟩
  have E_BadPayment : EX0 l.prog w K mg base "BadPayment" aBadPayment := fun X' e1 e2 e3 e4 e5 => ⟨by rw [e4]; exact PySem.W.mg_of X G nBadPayment, by rw [e3]; exact qBadPayment, by rw [e3]; exact kBadPayment, by rw [e3]; exact sBadPayment, by rw [e3]; exact tBadPayment⟩
  have FIBadCoins := fun_mk (st := s_init_BadCoins) lIBadCoins cIBadCoins kIBadCoins
  have bIBadCoins := FIBadCoins.binds (ps := (["self", "at"] : List Str)) fun _ _ _ _ _ _ us hl => match us, hl with | [_, _], _ => rfl
  have oIBadCoins : FnOk l.prog w K mg base (L2N.CX l.prog w) 1 fIBadCoins _ (["self", "at"] : List Str) (spInit K "at") := ok_init FIBadCoins sc_init_BadCoins fun X' hN' hs' => pss_one (ps_ost (pe_var (by rw [hN']; rfl) (by rw [hs']; exact .inl rfl) (by decide) (by decide)) (pe_var (by rw [hN']; rfl) (by rw [hs']; exact .inl rfl) (by decide) (by decide)))
  have E_BadCoins : EX1 l.prog w K mg base "BadCoins" "at" aBadCoins := fun X' e1 e2 e3 e4 e5 => xi_mk e1 e2 e3 e4 e5 (PySem.W.mg_of X G nBadCoins) ⟨⟨nmBadCoins, qnBadCoins, N0BadCoins, bsBadCoins, _, snBadCoins, subBadCoins, abBadCoins, colBadCoins, ddBadCoins, m0BadCoins, m1BadCoins, m2BadCoins, m3BadCoins, m5BadCoins, xLBadCoins, hbmBadCoins⟩, saBadCoins, sBadCoins, tBadCoins, kBadCoins⟩ atBadCoins iBadCoins tIBadCoins oIBadCoins bIBadCoins
  have TB42 := TBs (cT42, Pt42) (by simp)
  have o_is_integer := ok_is_integer (P := l.prog) (w := w) (base := base)  Tb F1 b1 G1
  have o_is_within := ok_is_within (P := l.prog) (w := w) (base := base)  Tb o_is_integer F2 b2 G2
  have o_is_tuple_of := ok_is_tuple_of (P := l.prog) (w := w) (base := base)  Tb F3 b3 G3
  have o_are_counts := ok_are_counts (P := l.prog) (w := w) (base := base)  Tb o_is_integer o_is_tuple_of F4 b4 G4
  have o_check_ladder := ok_check_ladder (P := l.prog) (w := w) (base := base) (aBadCoins := aBadCoins) Tb E_BadCoins o_is_integer F13 b13 G13
  have o_digits_of := ok_digits_of (P := l.prog) (w := w) (base := base)  Tb F14 b14 G14
  have o_check_amount := ok_check_amount (P := l.prog) (w := w) (base := base) (aBadNumber := aBadNumber) Tb E_BadNumber o_is_within F15 b15 G15
  have o_digits := ok_digits (P := l.prog) (w := w) (base := base)  o_check_ladder o_check_amount o_digits_of F16 b16 G16
  have o_check_digits := ok_check_digits (P := l.prog) (w := w) (base := base) (aBadPayment := aBadPayment) Tb E_BadPayment o_are_counts F17 b17 G17
  have o_amount_of := ok_amount_of (P := l.prog) (w := w) (base := base)  Tb F18 b18 G18
  have o_amount := ok_amount (P := l.prog) (w := w) (base := base)  o_check_ladder o_check_digits o_amount_of F19 b19 G19
  have o_is_digits := ok_is_digits (P := l.prog) (w := w) (base := base)  Tb o_check_ladder o_are_counts F20 b20 G20
  have o_carried := ok_carried (P := l.prog) (w := w) (base := base) (aBadPayment := aBadPayment) (aBadCoins := aBadCoins) Tb o_check_ladder o_check_digits F21 b21 G21
  have o_sum_digits := ok_sum_digits (P := l.prog) (w := w) (base := base) (aBadPayment := aBadPayment) (aBadCoins := aBadCoins) Tb o_check_ladder o_check_digits o_amount_of o_digits_of F22 b22 G22
  have o_carries_number := ok_carries_number (P := l.prog) (w := w) (base := base) (aBadNumber := aBadNumber) (aBadCoins := aBadCoins) Tb o_check_ladder o_check_amount o_digits_of F23 b23 G23
  have o_law_hand := ok_law_hand (P := l.prog) (w := w) (base := base)  Tb F25 b25 G25
  have o_law_draw := ok_law_draw (P := l.prog) (w := w) (base := base)  Tb F26 b26 G26
  have o_law_any := ok_law_any (P := l.prog) (w := w) (base := base)  Tb o_law_draw F27 b27 G27
  have o_law_is0 := ok_law_is0 (P := l.prog) (w := w) (base := base)  Tb F28 b28 G28
  have o_law_is1 := ok_law_is1 (P := l.prog) (w := w) (base := base)  Tb F28 b28 G28
  have o_law_is2 := ok_law_is2 (P := l.prog) (w := w) (base := base)  Tb F28 b28 G28
  have o_law_is3 := ok_law_is3 (P := l.prog) (w := w) (base := base)  Tb F28 b28 G28
  have o_law_worth := ok_law_worth (P := l.prog) (w := w) (base := base)  Tb F29 b29 G29
  have o_law_deep := ok_law_deep (P := l.prog) (w := w) (base := base)  Tb o_law_draw o_law_any F30 b30 G30
  have o_law_top2 := ok_law_top2 (P := l.prog) (w := w) (base := base)  Tb F31 b31 G31
  have o_law_top4 := ok_law_top4 (P := l.prog) (w := w) (base := base)  Tb F31 b31 G31
  have o_law_ladder := ok_law_ladder (P := l.prog) (w := w) (base := base)  Tb o_law_draw o_law_any o_law_top2 F32 b32 G32
  have o_law_number := ok_law_number (P := l.prog) (w := w) (base := base)  Tb o_law_draw o_law_any F33 b33 G33
  have o_law_digits := ok_law_digits (P := l.prog) (w := w) (base := base)  Tb F34 b34 G34
  have o_law_no_coins := ok_law_no_coins (P := l.prog) (w := w) (base := base) (aBadCoins := aBadCoins) Tb o_law_draw o_law_any o_law_top2 o_law_deep F35 b35 G35
  have o_law_carried := ok_law_carried (P := l.prog) (w := w) (base := base)  Tb F37 b37 G37
  have o_law_counts := ok_law_counts (P := l.prog) (w := w) (base := base)  Tb o_law_draw o_law_any o_law_number o_law_digits F38 b38 G38
  have o_law_weighed := ok_law_weighed (P := l.prog) (w := w) (base := base)  Tb F39 b39 G39
  have o_law_is_right := ok_law_is_right (P := l.prog) (w := w) (base := base)  Tb o_law_counts o_law_carried o_law_is2 o_law_is1 o_carried o_law_worth o_law_weighed o_is_digits o_sum_digits o_law_top4 o_digits o_amount F40 b40 G40
  have o_law_is_number_right := ok_law_is_number_right (P := l.prog) (w := w) (base := base)  Tb o_law_number o_law_any o_law_digits o_law_carried o_law_weighed o_law_is1 o_carries_number F41 b41 G41
  have o_law_are_refused := ok_law_are_refused (P := l.prog) (w := w) (base := base)  Tb TW F36 b36 G36 TB42 hP42 hu42 rfl o_law_no_coins o_law_any o_law_deep o_law_top4 o_law_draw o_law_digits o_carried o_sum_digits o_carries_number F42 b42 G42
  exact ok_law (P := l.prog) (w := w) (base := base)  Tb o_law_hand o_carried o_sum_digits o_carries_number o_law_is3 o_law_ladder o_law_is_right o_law_is_number_right o_law_are_refused F43 b43 G43
end KK
end

section
set_option Elab.async false
set_option linter.all false
open PySem PySem.W PyProof.Rows
set_option maxRecDepth 100000 in
set_option maxHeartbeats 0 in
theorem PySem.Challenge.cw_paidornot_k87_whole_carries_holds : PySem.Challenge.rw_paidornot_k87_whole_carries.Holds := by
  w_on; o_law; k_head; (case hw => w_witness2)
  k_fill
  refine VL.walk_vl (l := PySem.Challenge.rw_paidornot_k87_whole_carries) (k := 8) (x := "script") rfl rfl ⟨rfl, by decide, by decide⟩ (fun w h Y => PySem.W.km_in_of Y) ?F
  case F =>
    intro w mg fa h Y Xp KX G hmg HT
    have mM_MOST_COIN : ∃ t, mg "MOST_COIN" = some (.int KK.c_MOST_COIN t) := by
      obtain ⟨v, h1, h2⟩ := Xp.2.val _ (List.mem_cons_self)
      cases h2 with
      | int i t => exact ⟨t, h1⟩
    refine' KK.all_mk (Pt42 := 274) KX G hmg mM_MOST_COIN ?a1 ?l1 ?c1 ?k1 ?a2 ?l2 ?c2 ?k2 ?a3 ?l3 ?c3 ?k3 ?a4 ?l4 ?c4 ?k4 ?a13 ?l13 ?c13 ?k13 ?a14 ?l14 ?c14 ?k14 ?a15 ?l15 ?c15 ?k15 ?a16 ?l16 ?c16 ?k16 ?a17 ?l17 ?c17 ?k17 ?a18 ?l18 ?c18 ?k18 ?a19 ?l19 ?c19 ?k19 ?a20 ?l20 ?c20 ?k20 ?a21 ?l21 ?c21 ?k21 ?a22 ?l22 ?c22 ?k22 ?a23 ?l23 ?c23 ?k23 ?a25 ?l25 ?c25 ?k25 ?a26 ?l26 ?c26 ?k26 ?a27 ?l27 ?c27 ?k27 ?a28 ?l28 ?c28 ?k28 ?a29 ?l29 ?c29 ?k29 ?a30 ?l30 ?c30 ?k30 ?a31 ?l31 ?c31 ?k31 ?a32 ?l32 ?c32 ?k32 ?a33 ?l33 ?c33 ?k33 ?a34 ?l34 ?c34 ?k34 ?a35 ?l35 ?c35 ?k35 ?a36 ?l36 ?c36 ?k36 ?a37 ?l37 ?c37 ?k37 ?a38 ?l38 ?c38 ?k38 ?a39 ?l39 ?c39 ?k39 ?a40 ?l40 ?c40 ?k40 ?a41 ?l41 ?c41 ?k41 ?a42 ?l42 ?c42 ?k42 ?a43 ?l43 ?c43 ?k43 ?nCoinError ?nBadNumber ?qBadNumber ?kBadNumber ?sBadNumber ?tBadNumber ?nBadPayment ?qBadPayment ?kBadPayment ?sBadPayment ?tBadPayment ?nBadCoins ?xLBadCoins ?hbmBadCoins ?saBadCoins ?sBadCoins ?tBadCoins ?kBadCoins ?atBadCoins ?iBadCoins ?tIBadCoins ?lIBadCoins ?cIBadCoins ?kIBadCoins ?w_ve ?w_x_BadCoins ?w_v_BadCoins ?w_e_BadCoins ?w_k_BadCoins_BadCoins ?w_k_BadCoins_BadNumber ?w_k_BadCoins_BadPayment ?w_x_BadNumber ?w_v_BadNumber ?w_e_BadNumber ?w_k_BadNumber_BadCoins ?w_k_BadNumber_BadNumber ?w_k_BadNumber_BadPayment ?w_x_BadPayment ?w_v_BadPayment ?w_e_BadPayment ?w_k_BadPayment_BadCoins ?w_k_BadPayment_BadNumber ?w_k_BadPayment_BadPayment ?w_fC ?tab42 ?nP42 ?z_ValueError ?z_abs ?z_all ?z_any ?z_bool ?z_enumerate ?z_int ?z_isinstance ?z_len ?z_list ?z_max ?z_range ?z_str ?z_sum ?z_tuple ?z_zip ?m_MOST_COINS ?hT42 ?hP42 ?hu42 ?hcov
    case a1 => k_is
    case l1 => k_is
    case c1 => k_is
    case k1 => k_is
    case a2 => k_is
    case l2 => k_is
    case c2 => k_is
    case k2 => k_is
    case a3 => k_is
    case l3 => k_is
    case c3 => k_is
    case k3 => k_is
    case a4 => k_is
    case l4 => k_is
    case c4 => k_is
    case k4 => k_is
    case a13 => k_is
    case l13 => k_is
    case c13 => k_is
    case k13 => k_is
    case a14 => k_is
    case l14 => k_is
    case c14 => k_is
    case k14 => k_is
    case a15 => k_is
    case l15 => k_is
    case c15 => k_is
    case k15 => k_is
    case a16 => k_is
    case l16 => k_is
    case c16 => k_is
    case k16 => k_is
    case a17 => k_is
    case l17 => k_is
    case c17 => k_is
    case k17 => k_is
    case a18 => k_is
    case l18 => k_is
    case c18 => k_is
    case k18 => k_is
    case a19 => k_is
    case l19 => k_is
    case c19 => k_is
    case k19 => k_is
    case a20 => k_is
    case l20 => k_is
    case c20 => k_is
    case k20 => k_is
    case a21 => k_is
    case l21 => k_is
    case c21 => k_is
    case k21 => k_is
    case a22 => k_is
    case l22 => k_is
    case c22 => k_is
    case k22 => k_is
    case a23 => k_is
    case l23 => k_is
    case c23 => k_is
    case k23 => k_is
    case a25 => k_is
    case l25 => k_is
    case c25 => k_is
    case k25 => k_is
    case a26 => k_is
    case l26 => k_is
    case c26 => k_is
    case k26 => k_is
    case a27 => k_is
    case l27 => k_is
    case c27 => k_is
    case k27 => k_is
    case a28 => k_is
    case l28 => k_is
    case c28 => k_is
    case k28 => k_is
    case a29 => k_is
    case l29 => k_is
    case c29 => k_is
    case k29 => k_is
    case a30 => k_is
    case l30 => k_is
    case c30 => k_is
    case k30 => k_is
    case a31 => k_is
    case l31 => k_is
    case c31 => k_is
    case k31 => k_is
    case a32 => k_is
    case l32 => k_is
    case c32 => k_is
    case k32 => k_is
    case a33 => k_is
    case l33 => k_is
    case c33 => k_is
    case k33 => k_is
    case a34 => k_is
    case l34 => k_is
    case c34 => k_is
    case k34 => k_is
    case a35 => k_is
    case l35 => k_is
    case c35 => k_is
    case k35 => k_is
    case a36 => k_is
    case l36 => k_is
    case c36 => k_is
    case k36 => k_is
    case a37 => k_is
    case l37 => k_is
    case c37 => k_is
    case k37 => k_is
    case a38 => k_is
    case l38 => k_is
    case c38 => k_is
    case k38 => k_is
    case a39 => k_is
    case l39 => k_is
    case c39 => k_is
    case k39 => k_is
    case a40 => k_is
    case l40 => k_is
    case c40 => k_is
    case k40 => k_is
    case a41 => k_is
    case l41 => k_is
    case c41 => k_is
    case k41 => k_is
    case a42 => k_is
    case l42 => k_is
    case c42 => k_is
    case k42 => k_is
    case a43 => k_is
    case l43 => k_is
    case c43 => k_is
    case k43 => k_is
    case nCoinError => k_is
    case nBadNumber => k_is
    case qBadNumber => k_exc
    case kBadNumber => k_is
    case sBadNumber => k_is
    case tBadNumber => k_is
    case nBadPayment => k_is
    case qBadPayment => k_exc
    case kBadPayment => k_is
    case sBadPayment => k_is
    case tBadPayment => k_is
    case nBadCoins => k_is
    case xLBadCoins => k_is
    case hbmBadCoins => kernel_rfl
    case saBadCoins => k_is
    case sBadCoins => k_is
    case tBadCoins => k_is
    case kBadCoins => k_is
    case atBadCoins => k_is
    case iBadCoins => k_is
    case tIBadCoins => k_is
    case lIBadCoins => k_is
    case cIBadCoins => k_is
    case kIBadCoins => k_is
    case w_ve => k_is
    case w_x_BadCoins => kernel_rfl
    case w_v_BadCoins => kernel_rfl
    case w_e_BadCoins => kernel_rfl
    case w_k_BadCoins_BadCoins => kernel_rfl
    case w_k_BadCoins_BadNumber => kernel_rfl
    case w_k_BadCoins_BadPayment => kernel_rfl
    case w_x_BadNumber => kernel_rfl
    case w_v_BadNumber => kernel_rfl
    case w_e_BadNumber => kernel_rfl
    case w_k_BadNumber_BadCoins => kernel_rfl
    case w_k_BadNumber_BadNumber => kernel_rfl
    case w_k_BadNumber_BadPayment => kernel_rfl
    case w_x_BadPayment => kernel_rfl
    case w_v_BadPayment => kernel_rfl
    case w_e_BadPayment => kernel_rfl
    case w_k_BadPayment_BadCoins => kernel_rfl
    case w_k_BadPayment_BadNumber => kernel_rfl
    case w_k_BadPayment_BadPayment => kernel_rfl
    case w_fC => kernel_rfl
    case tab42 => kernel_rfl
    case nP42 => kernel_rfl
    case z_ValueError => k_is
    case z_abs => k_is
    case z_all => k_is
    case z_any => k_is
    case z_bool => k_is
    case z_enumerate => k_is
    case z_int => k_is
    case z_isinstance => k_is
    case z_len => k_is
    case z_list => k_is
    case z_max => k_is
    case z_range => k_is
    case z_str => k_is
    case z_sum => k_is
    case z_tuple => k_is
    case z_zip => k_is
    case m_MOST_COINS => exact ⟨_, by k_is⟩
    case hT42 => exact fun _ => ⟨PySem.W.codeHd_of_K KX (by kernel_rfl), PySem.W.km_tabs_of Y _ (by k_mem)⟩
    case hP42 => decide +kernel
    case hu42 => decide +kernel
    case hcov => decide +kernel
end
