import PyProof.Rows.All
import Wide.All
import OpenK.AllK
import Wide.FinOn
import HandS.ForMost
import HandS.Exc
import HandS.TryOnly
import HandS.ExcOwn
import HandS.WordsExc
import HandS.Wide
import HandS.IsInst
import HandS.TupAny
import HandS.TupMul
import HandS.SortInts
import HandS.Style
import HandS.Lambda
import HandS.ExcCtx
import HandS.ExcInit
import HandS.Walk
import HandS.Zip
import HandS.RaiseMore
import HandS.Hot
import HandS.HotCalls
import KE.KExcIs
import HandS.ExcField
import PyProof.LongRange
import HandS.Dict
import HandS.EndTab
import PySem.Challenge.RW_paidornot_k88_whole_ways_by_digits
section
set_option linter.all false
namespace VL
open PySem PySem.Spec PyProof.Rows
/-- the tables of code objects that grow (of the defs with lambdas), and the lambdas' name -/
def lamT : List (Addr × Str) := [(211, "_law_are_refused.<locals>.<lambda>")]
end VL
end

section
set_option Elab.async false
set_option linter.all false
set_option maxRecDepth 100000
set_option maxHeartbeats 4000000
namespace VL
open PySem PySem.Spec PyProof.Rows L2

/-! ### data, and what bears it -/
inductive D where
  | non | bl (b : Bool) | int (i : Int) | str (x : Str)
  | tup (l : List D) | lst (l : List D)
  /-- a list that is read alone (the script) -/
  | frl (l : List D)
  | dic (l : List (Key × D))
  | ty (n : String) | adr (a : Addr)
  | ins (C : Addr) (fs : List (Str × D))
  /-- a caught exception with its dict -/
  | exc (a dx : Addr) (fs : List (Str × D))

def Ex (H H' : Hp) : Prop := ∀ a o, H a = some o → H' a = some o
theorem Ex.refl (H : Hp) : Ex H H := fun _ _ h => h
theorem Ex.trans {H H1 H2 : Hp} (a : Ex H H1) (b : Ex H1 H2) : Ex H H2 := fun x o h => b x o (a x o h)
theorem Ex.rd {H H' : Hp} {a : Addr} {u : HO} (e : Ex H H') (h : Rd H a u) : Rd H' a u := by
  rcases h with h | ⟨o, h⟩
  · exact Or.inl (e a _ h)
  · exact Or.inr ⟨o, e a _ h⟩
theorem Ex.l {K : PySem.W.Frag} {H H' : Hp} {a : Addr} {xs : List V} (e : Ex H H') (h : SqL K H a xs) : SqL K H' a xs := by
  rcases h with h | h
  · exact Or.inl (e.rd h)
  · exact Or.inr h
theorem Ex.t {K : PySem.W.Frag} {H H' : Hp} {a : Addr} {xs : List V} (e : Ex H H') (h : SqT K H a xs) : SqT K H' a xs := by
  rcases h with h | h
  · exact Or.inl (e.rd h)
  · exact Or.inr h

mutual
inductive Rep (K : PySem.W.Frag) (H : Hp) : V → D → Prop
  | non : Rep K H .non .non
  | bl (b : Bool) : Rep K H (.bl b) (.bl b)
  | int (i : Int) : Rep K H (.int i) (.int i)
  | str (x : Str) : Rep K H (.str x) (.str x)
  | ty (n : String) : Rep K H (.ty n) (.ty n)
  | adr (a : Addr) : Rep K H (.ref a) (.adr a)
  | tup {a : Addr} {vs : List V} {ds : List D} : SqT K H a vs → Reps K H vs ds → Rep K H (.ref a) (.tup ds)
  | lst {a : Addr} {vs : List V} {ds : List D} : H a = some (.lst vs) → Reps K H vs ds → Rep K H (.ref a) (.lst ds)
  | frl {a : Addr} {vs : List V} {ds : List D} : SqL K H a vs → Reps K H vs ds → Rep K H (.ref a) (.frl ds)
  | dic {a : Addr} {kvs : List (Key × V)} {ds : List (Key × D)} : H a = some (.dK kvs) → RepK K H kvs ds → Rep K H (.ref a) (.dic ds)
  | ins {a C dx : Addr} {fvs : List (Str × V)} {fs : List (Str × D)} : H a = some (.ins C dx fvs) → RepF K H fvs fs → Rep K H (.ref a) (.ins C fs)
  | exc {a dx : Addr} {fvs : List (Str × V)} {fs : List (Str × D)} : H dx = some (.xd fvs) → RepF K H fvs fs → Rep K H (.ref a) (.exc a dx fs)
inductive Reps (K : PySem.W.Frag) (H : Hp) : List V → List D → Prop
  | nil : Reps K H [] []
  | cons {v : V} {vs : List V} {d : D} {ds : List D} : Rep K H v d → Reps K H vs ds → Reps K H (v :: vs) (d :: ds)
inductive RepK (K : PySem.W.Frag) (H : Hp) : List (Key × V) → List (Key × D) → Prop
  | nil : RepK K H [] []
  | cons {k : Key} {v : V} {vs : List (Key × V)} {d : D} {ds : List (Key × D)} : Rep K H v d → RepK K H vs ds → RepK K H ((k, v) :: vs) ((k, d) :: ds)
inductive RepF (K : PySem.W.Frag) (H : Hp) : List (Str × V) → List (Str × D) → Prop
  | nil : RepF K H [] []
  | cons {k : Str} {v : V} {vs : List (Str × V)} {d : D} {ds : List (Str × D)} : Rep K H v d → RepF K H vs ds → RepF K H ((k, v) :: vs) ((k, d) :: ds)
end

section
variable {K : PySem.W.Frag} {H H' : Hp}
mutual
theorem Rep.mono (e : Ex H H') : ∀ {v : V} {d : D}, Rep K H v d → Rep K H' v d
  | _, _, .non => .non
  | _, _, .bl b => .bl b
  | _, _, .int i => .int i
  | _, _, .str x => .str x
  | _, _, .ty n => .ty n
  | _, _, .adr a => .adr a
  | _, _, .tup h r => .tup (e.t h) (Reps.mono e r)
  | _, _, .lst h r => .lst (e _ _ h) (Reps.mono e r)
  | _, _, .frl h r => .frl (e.l h) (Reps.mono e r)
  | _, _, .dic h r => .dic (e _ _ h) (RepK.mono e r)
  | _, _, .ins h r => .ins (e _ _ h) (RepF.mono e r)
  | _, _, .exc h r => .exc (e _ _ h) (RepF.mono e r)
theorem Reps.mono (e : Ex H H') : ∀ {v : List V} {d : List D}, Reps K H v d → Reps K H' v d
  | _, _, .nil => .nil
  | _, _, .cons h r => .cons (Rep.mono e h) (Reps.mono e r)
theorem RepK.mono (e : Ex H H') : ∀ {v : List (Key × V)} {d : List (Key × D)}, RepK K H v d → RepK K H' v d
  | _, _, .nil => .nil
  | _, _, .cons h r => .cons (Rep.mono e h) (RepK.mono e r)
theorem RepF.mono (e : Ex H H') : ∀ {v : List (Str × V)} {d : List (Str × D)}, RepF K H v d → RepF K H' v d
  | _, _, .nil => .nil
  | _, _, .cons h r => .cons (Rep.mono e h) (RepF.mono e r)
end
theorem Reps.length : ∀ {v : List V} {d : List D}, Reps K H v d → v.length = d.length
  | _, _, .nil => rfl
  | _, _, .cons _ r => by rw [List.length_cons, List.length_cons, r.length]
theorem Reps.get : ∀ {vs : List V} {ds : List D} {i : Nat} {d : D}, Reps K H vs ds → ds[i]? = some d → ∃ v, vs[i]? = some v ∧ Rep K H v d
  | _, _, i, d, .nil, e => by simp at e
  | _, _, 0, d, .cons h _, e => by
    rw [List.getElem?_cons_zero] at e
    cases e
    exact ⟨_, rfl, h⟩
  | _, _, i + 1, d, .cons _ r, e => by
    rw [List.getElem?_cons_succ] at e
    obtain ⟨v, e1, h⟩ := r.get e
    exact ⟨v, by rw [List.getElem?_cons_succ]; exact e1, h⟩
theorem Reps.get' : ∀ {vs : List V} {ds : List D} {i : Nat} {v : V}, Reps K H vs ds → vs[i]? = some v → ∃ d, ds[i]? = some d ∧ Rep K H v d
  | _, _, i, d, .nil, e => by simp at e
  | _, _, 0, d, .cons h _, e => by
    rw [List.getElem?_cons_zero] at e
    cases e
    exact ⟨_, rfl, h⟩
  | _, _, i + 1, d, .cons _ r, e => by
    rw [List.getElem?_cons_succ] at e
    obtain ⟨v, e1, h⟩ := r.get' e
    exact ⟨v, by rw [List.getElem?_cons_succ]; exact e1, h⟩
theorem Reps.append : ∀ {vs ws : List V} {ds es : List D}, Reps K H vs ds → Reps K H ws es → Reps K H (vs ++ ws) (ds ++ es)
  | _, _, _, _, .nil, r => r
  | _, _, _, _, .cons h t, r => .cons h (t.append r)
theorem Reps.one {v : V} {d : D} (h : Rep K H v d) : Reps K H [v] [d] := .cons h .nil
theorem Reps.take : ∀ {vs : List V} {ds : List D} (n : Nat), Reps K H vs ds → Reps K H (vs.take n) (ds.take n)
  | _, _, 0, _ => by rw [List.take_zero, List.take_zero]; exact .nil
  | _, _, n + 1, .nil => by rw [List.take_nil, List.take_nil]; exact .nil
  | _, _, n + 1, .cons h r => by rw [List.take_succ_cons, List.take_succ_cons]; exact .cons h (r.take n)
theorem Reps.drop : ∀ {vs : List V} {ds : List D} (n : Nat), Reps K H vs ds → Reps K H (vs.drop n) (ds.drop n)
  | _, _, 0, r => by rw [List.drop_zero, List.drop_zero]; exact r
  | _, _, n + 1, .nil => by rw [List.drop_nil, List.drop_nil]; exact .nil
  | _, _, n + 1, .cons h r => by rw [List.drop_succ_cons, List.drop_succ_cons]; exact r.drop n
theorem Reps.set : ∀ {vs : List V} {ds : List D} (n : Nat) {v : V} {d : D}, Rep K H v d → Reps K H vs ds → Reps K H (vs.set n v) (ds.set n d)
  | _, _, _, _, _, _, .nil => .nil
  | _, _, 0, _, _, q, .cons _ r => .cons q r
  | _, _, n + 1, _, _, q, .cons h r => .cons h (r.set n q)
theorem Reps.replicate {v : V} {d : D} (h : Rep K H v d) : ∀ n : Nat, Reps K H (List.replicate n v) (List.replicate n d)
  | 0 => .nil
  | n + 1 => by rw [List.replicate_succ, List.replicate_succ]; exact .cons h (Reps.replicate h n)
theorem Reps.dropLast : ∀ {vs : List V} {ds : List D}, Reps K H vs ds → Reps K H vs.dropLast ds.dropLast := fun {vs ds} r => by
  rw [List.dropLast_eq_take, List.dropLast_eq_take, r.length]
  exact r.take _
theorem Reps.reverse : ∀ {vs : List V} {ds : List D}, Reps K H vs ds → Reps K H vs.reverse ds.reverse
  | _, _, .nil => .nil
  | _, _, .cons h r => by
    rw [List.reverse_cons, List.reverse_cons]
    exact r.reverse.append (.one h)
theorem Reps.ints : ∀ {vs : List V} {ns : List Int}, Reps K H vs (ns.map D.int) → vs = ns.map V.int
  | vs, [], r => by cases r; rfl
  | vs, n :: ns, r => by
    rw [List.map_cons] at r
    cases r with
    | cons h t => cases h; rw [t.ints, List.map_cons]
theorem Reps.bls : ∀ {vs : List V} {ns : List Bool}, Reps K H vs (ns.map D.bl) → vs = ns.map V.bl
  | vs, [], r => by cases r; rfl
  | vs, n :: ns, r => by
    rw [List.map_cons] at r
    cases r with
    | cons h t => cases h; rw [t.bls, List.map_cons]
theorem Reps.ofInts : ∀ ns : List Int, Reps K H (ns.map V.int) (ns.map D.int)
  | [] => .nil
  | n :: ns => .cons (.int n) (Reps.ofInts ns)
theorem Reps.ofBls : ∀ ns : List Bool, Reps K H (ns.map V.bl) (ns.map D.bl)
  | [] => .nil
  | n :: ns => .cons (.bl n) (Reps.ofBls ns)
end

/-! ### hidden addresses, slots, states -/
/-- no table -/
class NT (o : HO) : Prop where
  nt : ∀ ps, o ≠ .tbl ps
instance {vs : List V} : NT (.lst vs) := ⟨fun _ z => by cases z⟩
instance {vs : List V} : NT (.tup vs) := ⟨fun _ z => by cases z⟩
instance {o : Obj} {u : HO} : NT (.frz o u) := ⟨fun _ z => by cases z⟩
instance {C dx : Addr} {fs : List (Str × V)} : NT (.ins C dx fs) := ⟨fun _ z => by cases z⟩
instance {kvs : List (Key × V)} : NT (.dK kvs) := ⟨fun _ z => by cases z⟩
instance {kvs : List (Str × V)} : NT (.xd kvs) := ⟨fun _ z => by cases z⟩
open Classical in
/-- what is seen: neither what U hides nor tables -/
noncomputable def hid (U : Addr → Prop) (H : Hp) : Hp := fun a => if U a ∨ ∃ ps, H a = some (.tbl ps) then none else H a
theorem hid_of {U : Addr → Prop} {H : Hp} {a : Addr} {o : HO} [t : NT o] (n : ¬ U a) (h : H a = some o) : hid U H a = some o := by
  unfold hid
  rw [if_neg (fun z => z.elim n fun ⟨ps, z⟩ => t.nt ps (Option.some.inj (h.symm.trans z)))]; exact h
theorem of_hid {U : Addr → Prop} {H : Hp} {a : Addr} {o : HO} (h : hid U H a = some o) : ¬ U a ∧ H a = some o := by
  unfold hid at h
  split at h
  · cases h
  · rename_i n
    exact ⟨fun z => n (.inl z), h⟩
theorem nt_hid {U : Addr → Prop} {H : Hp} {a : Addr} {o : HO} (h : hid U H a = some o) : NT o := ⟨fun ps e => by
  unfold hid at h
  split at h
  · cases h
  · rename_i n
    exact n (.inr ⟨ps, by rw [h, e]⟩)⟩
theorem hid_ex {U : Addr → Prop} {H : Hp} : Ex (hid U H) H := fun _ _ h => (of_hid h).2
theorem ex_hid {U U' : Addr → Prop} {H H' : Hp} (e : ∀ a o, NT o → ¬ U a → H a = some o → ¬ U' a ∧ H' a = some o) : Ex (hid U H) (hid U' H') := fun a o h => by
  obtain ⟨n, q⟩ := of_hid h
  have t := nt_hid h
  obtain ⟨n', q'⟩ := e a o t n q
  exact hid_of n' q'
/-- all but the tables stay -/
def ExN (H H' : Hp) : Prop := ∀ a o, NT o → H a = some o → H' a = some o
theorem ExN.trans {H H1 H2 : Hp} (a : ExN H H1) (b : ExN H1 H2) : ExN H H2 := fun x o t h => b x o t (a x o t h)
theorem Ex.nt {H H' : Hp} (e : Ex H H') : ExN H H' := fun a o _ h => e a o h
/-- the lambdas' tables -/
abbrev TB (H : Hp) : Prop := LamX.Tabs lamT H
theorem TB.ex {H H' : Hp} (t : TB H) (e : Ex H H') : TB H' := LamX.Tabs.ext t e
/-- what stands where a list stood -/
theorem TB.at {H H' : Hp} {q : Addr} {vs : List V} (t : TB H) (hq : H q = some (.lst vs)) (e : ∀ a, a ≠ q → H' a = H a) : TB H' := fun p hp => by
  obtain ⟨ps, h1, h2, h3⟩ := t p hp
  refine ⟨ps, by rw [e _ (ne_of h1 hq (fun z => by cases z))]; exact h1, h2, fun pos cv hc => ?_⟩
  obtain ⟨c, e1, e2⟩ := h3 pos cv hc
  exact ⟨c, e1, by rw [e _ (ne_of e2 hq (fun z => by unfold LamX.CodeO at z; cases z))]; exact e2⟩
/-- nothing is let out -/
theorem passLN {X : Cx} : Passes (L2N.CX X.prog X.w) X E0 := fun _ _ _ _ _ _ _ h => by
  obtain ⟨_, _, _, _, _, _, _, _, _, _, _, _, z⟩ := h
  exact z.elim
theorem Fun.okXN {P : Program} {w : World} {K : PySem.W.Frag} {mg : Str → Option Value} {base : Heap} {x qual : Str} {st : Stmt} {f : Addr} {fd : FuncData} {N ps : List Str} {k : Nat} {sp : Sp} (F : Fun K x qual st f fd) (S : FnScope N ps (defScope st)) (len : ∀ vs H Q E, sp vs H Q E → vs.length = ps.length)
    (hbody : ∀ (cdv : Value) (A : Around) (outer : List Env) (s : Shared) (H : Hp) (vs : List V) (Q : VK) (E : XK), Room k (A.deeper (envOfC qual (defScope st) s.heap.objs.size f cdv)) → sp vs H Q E →
      ∃ t, PSs (cxOf (L2N.CX P w) P w K mg base N qual (defScope st) f cdv A outer s H E) (defBody st) t ∧ t { nx := fun _ H' => Q .non H', rt := Q } (start N vs) H) : FnOk P w K mg base (L2N.CX P w) (k + 1) f fd ps sp := by
  obtain ⟨oc, od, kV, doc, pm, an, cdv, ct, osl, rfl, lk, hcd⟩ := F.ex
  exact fn_of lk hcd S len fun A outer s H vs Q E hr hsp => hbody cdv A outer s H vs Q E hr hsp
theorem Fun.okXC {P : Program} {w : World} {K : PySem.W.Frag} {mg : Str → Option Value} {base : Heap} {x qual : Str} {st : Stmt} {f : Addr} {fd : FuncData} {N ps : List Str} {k : Nat} {sp : Sp} (F : Fun K x qual st f fd) (S : FnScope N ps (defScope st)) (len : ∀ vs H Q E, sp vs H Q E → vs.length = ps.length)
    (hbody : ∀ (cdv : Value), fd.code = cdv → ∀ (A : Around) (outer : List Env) (s : Shared) (H : Hp) (vs : List V) (Q : VK) (E : XK), Room k (A.deeper (envOfC qual (defScope st) s.heap.objs.size f cdv)) → sp vs H Q E →
      ∃ t, PSs (cxOf (L2N.CX P w) P w K mg base N qual (defScope st) f cdv A outer s H E) (defBody st) t ∧ t { nx := fun _ H' => Q .non H', rt := Q } (start N vs) H) : FnOk P w K mg base (L2N.CX P w) (k + 1) f fd ps sp := by
  obtain ⟨oc, od, kV, doc, pm, an, cdv, ct, osl, rfl, lk, hcd⟩ := F.ex
  exact fn_of lk hcd S len fun A outer s H vs Q E hr hsp => hbody cdv rfl A outer s H vs Q E hr hsp
/-- an own exception with an __init__ -/
theorem pmk_oexN {X : Cx} {e : Expr} {es : List Expr} {ta : TA} {p pos : Pos} {CX : CXT} {x : Str} {C fI : Addr} {k : Nat} {fd : FuncData} {ps : List Str} {sp : Sp} {ds : List Value} {dvs : List V} (T : OexC X.K C) (iC : PySem.W.findIn X.K (.ref C) "__init__" = some (some (.ref fI))) (tI : PySem.W.typeIn X.K (.ref fI) = some (.type "function"))
    (F1 : FnOk X.prog X.w X.K X.mg X.base CX k fI fd ps sp) (hr : Room (k + 1) X.A) (hb : Binds X.K fd ps ds) (hd : Vals dvs ds) (hx : Passes CX X (fun _ _ _ => False)) (hg : Gl X x) (hm : X.mg x = some (.ref C)) (ha : PA X (e :: es) ta)
    (hdb : (x == ("__debug__" : Str)) = false := by decide) (he : starEach (e :: es) X.env = (false, eval e X.env) :: starEach es X.env := by rfl) (hpl : (backTo pos (starEach es X.env)).any (·.1) = false := by rfl) :
    L2N.PMk X (.Call (.Name x p) (e :: es) [] pos) (tMkO C sp dvs ta) := by
  intro pins s σ H Q I h
  obtain ⟨nm, q, N, bs, bm, sn, sub, ab, col, dd, k0, k1, k2, k3, k5, hC, hbm⟩ := T.cls
  refine wpAny_Call_Name_kw (ld_glob I hg hm ?_ hdb)
  refine PySem.W.callWith_K (h₀ := X.base) I.ok.mod.kin T.kC (thn (ha.run pos pins s σ H _ I h) fun us s1 ⟨vs, H1, I1, r1, hz, q1⟩ => ⟨I1.kIn, ?_⟩) he hpl
  show wpAny _ _ (call (.ref C) us) _ _ _
  obtain ⟨hp, g, dr, tk, os⟩ := s1
  have hsz : hp.objs.size ≤ hp.objs.size + 1 := Nat.le_succ _
  have hn : H1 (hp.objs.size + 1) = none := I1.hok.fresh hsz
  have hq := q1 (hp.objs.size + 1) hn
  have kk : ∀ b o, hp.get? b = some o → ((hp.push (PySem.W.kdv_tup us)).push (PySem.HandSPX.excO C hp.objs.size)).get? b = some o := fun b o e => Heap.get?_push_of_some _ (Heap.get?_push_of_some _ e)
  have hget : ((hp.push (PySem.W.kdv_tup us)).push (PySem.HandSPX.excO C hp.objs.size)).get? (hp.objs.size + 1) = some (PySem.HandSPX.excO C hp.objs.size) := by heap_get
  have I2 : Inv X pins σ (upd H1 (hp.objs.size + 1) (exo (hp.objs.size + 1) C none)) ⟨(hp.push (PySem.W.kdv_tup us)).push (PySem.HandSPX.excO C hp.objs.size), g, dr, tk, os⟩ :=
    I1.laid (t' := tk) (a := hp.objs.size + 1) (o := exo (hp.objs.size + 1) C none) (h' := (hp.push (PySem.W.kdv_tup us)).push (PySem.HandSPX.excO C hp.objs.size)) kk hsz (exo_ok hget)
  have r2 : Vals (V.ref (hp.objs.size + 1) :: (vs ++ dvs)) (Value.ref (hp.objs.size + 1) :: (us ++ ds)) := .cons rfl (r1.append hd)
  have hl : (Value.ref (hp.objs.size + 1) :: us ++ ds).length = ps.length := by
    have e := r2.length
    rw [F1.len _ _ _ _ hq] at e
    exact e.symm
  have hus : us.length ≤ sizeLine := by
    rw [← Paired.length r1, sizeLine_eq]
    omega
  refine wpAny_call (PySem.HandSPX.call_own F.excBase_ValueError (fun Y => PySem.HandSPX.refsVE_contains Y bm hbm) (I1.kIn _ _ hC) (PySem.W.looks_findIn I1.kIn iC) (fun self => PySem.W.bind_fn I1.kIn self tI) hus
    (codeAny_mono (F1.run _ X.stack _ _ ⟨Value.ref (hp.objs.size + 1) :: us, []⟩ (Value.ref (hp.objs.size + 1) :: (us ++ ds)) _ _ (fun _ _ _ => False) (hr.make C us []) (I2.env0.make C us []) (hb _ (Value.ref (hp.objs.size + 1) :: us) I2.kIn hl) r2 hq) fun r s' hq' => ?_))
  cases r with
  | error er => exact hx pins σ _ _ er s' I2 hq'
  | ok fl =>
    cases fl with
    | ret u =>
      obtain ⟨v, H2, os2, bare2, un2, hok2, rv, ev, d, fs, ea, ed, hd1, q2⟩ := hq'
      subst ev
      obtain ⟨h2, g2, d2, t2, os'⟩ := s'
      obtain ⟨t0, G, J, kG, ge, hoe, na⟩ := mk_end0 (d2 := d2) (t2 := t2) I1 hsz kk un2 hok2 os2 bare2 ea ed hd1
      exact ⟨rv, _, _, _, ⟨G, g2, d2, t2, os'⟩, _, .ref C, some d, rfl, J, kG, ge, hoe, ⟨rfl, rfl, fun vs e => by cases e; rfl⟩, rfl, rfl, na, rfl, bare2, raises_own T.exC T.tyC, q2⟩
    | next => exact False.elim hq'
    | brk => exact False.elim hq'
    | cont => exact False.elim hq'

inductive Sl where
  | un | dat (d : D) | mut (p : Addr) (ds : List D)
abbrev Lo := List Sl
def owns (ρ : Lo) (a : Addr) : Prop := ∃ ds, Sl.mut a ds ∈ ρ
def UU (O : Addr → Prop) (ρ : Lo) (a : Addr) : Prop := O a ∨ owns ρ a
open Classical in
/-- what is known but the own lists -/
noncomputable def sup (ρ : Lo) (H : Hp) : Hp := hid (owns ρ) H

structure SOk (K : PySem.W.Frag) (F : Hp) (O : Addr → Prop) (ρ : Lo) (σ : L2.St) (H : Hp) : Prop where
  len : σ.length = ρ.length
  dat : ∀ (i : Nat) d, ρ[i]? = some (.dat d) → ∃ v, σ[i]? = some (some v) ∧ Rep K (hid (UU O ρ) H) v d
  mt : ∀ (i : Nat) p ds, ρ[i]? = some (.mut p ds) → σ[i]? = some (some (.ref p)) ∧ F p = none ∧ ∃ vs, H p = some (.lst vs) ∧ Reps K (hid (UU O ρ) H) vs ds
  nd : ∀ (i j : Nat) p ds ds', ρ[i]? = some (.mut p ds) → ρ[j]? = some (.mut p ds') → i = j
  fr : Ex F H
  od : ∀ a, O a → ∃ o, F a = some o
  tb : TB H
  ft : ∀ a o, F a = some o → NT o
section
variable {K : PySem.W.Frag} {F F' : Hp} {O : Addr → Prop} {ρ ρ' : Lo} {σ : L2.St} {H H' : Hp}
theorem SOk.own (I : SOk K F O ρ σ H) {a : Addr} (h : owns ρ a) : F a = none := by
  obtain ⟨ds, h⟩ := h
  obtain ⟨i, h⟩ := List.getElem?_of_mem h
  exact (I.mt i a ds h).2.1
theorem SOk.ownH (I : SOk K F O ρ σ H) {a : Addr} (h : owns ρ a) : ∃ vs, H a = some (.lst vs) := by
  obtain ⟨ds, h⟩ := h
  obtain ⟨i, h⟩ := List.getElem?_of_mem h
  obtain ⟨_, _, vs, e, _⟩ := I.mt i a ds h
  exact ⟨vs, e⟩
theorem SOk.nO (I : SOk K F O ρ σ H) {a : Addr} (h : owns ρ a) : ¬ O a := fun o => by
  obtain ⟨u, e⟩ := I.od a o
  rw [I.own h] at e
  cases e
/-- more is held fast -/
theorem SOk.sup (I : SOk K F O ρ σ H) : SOk K (sup ρ H) O ρ σ H where
  len := I.len
  dat := I.dat
  mt := fun i p ds e => by
    obtain ⟨h1, h2, h3⟩ := I.mt i p ds e
    refine ⟨h1, ?_, h3⟩
    unfold VL.sup hid
    rw [if_pos (.inl ⟨ds, List.mem_of_getElem? e⟩)]
  nd := I.nd
  fr := hid_ex
  od := fun a o => by
    obtain ⟨u, e⟩ := I.od a o
    have := I.ft a u e
    exact ⟨u, hid_of (fun z => I.nO z o) (I.fr a u e)⟩
  tb := I.tb
  ft := fun _ _ h => nt_hid h
theorem SOk.le_sup (I : SOk K F O ρ σ H) : Ex F (VL.sup ρ H) := fun a o e => have := I.ft a o e; hid_of (fun z => by rw [I.own z] at e; cases e) (I.fr a o e)
/-- .. less -/
theorem SOk.weak (I : SOk K F' O ρ σ H) (e : Ex F F') (od : ∀ a, O a → ∃ o, F a = some o) : SOk K F O ρ σ H where
  len := I.len
  dat := I.dat
  mt := fun i p ds h => by
    obtain ⟨h1, h2, h3⟩ := I.mt i p ds h
    refine ⟨h1, ?_, h3⟩
    cases q : F p with
    | none => rfl
    | some o => rw [e p o q] at h2; cases h2
  nd := I.nd
  fr := e.trans I.fr
  od := od
  tb := I.tb
  ft := fun a o h => I.ft a o (e a o h)
/-- a datum seen at H is seen behind what keeps sup ρ H -/
theorem SOk.keep {v : V} {d : D} (ow : owns ρ' = owns ρ) (J : SOk K (VL.sup ρ H) O ρ' σ H') (r : Rep K (hid (UU O ρ) H) v d) : Rep K (hid (UU O ρ') H') v d := by
  refine r.mono (ex_hid fun a o _ n h => ⟨?_, J.fr a o (hid_of (fun z => n (Or.inr z)) h)⟩)
  unfold UU at n ⊢
  rw [ow]
  exact n
theorem SOk.keeps {v : List V} {d : List D} (ow : owns ρ' = owns ρ) (J : SOk K (VL.sup ρ H) O ρ' σ H') (r : Reps K (hid (UU O ρ) H) v d) : Reps K (hid (UU O ρ') H') v d := by
  refine r.mono (ex_hid fun a o _ n h => ⟨?_, J.fr a o (hid_of (fun z => n (Or.inr z)) h)⟩)
  unfold UU at n ⊢
  rw [ow]
  exact n
/-- a new object beside -/
theorem SOk.new {p : Addr} {o : HO} (I : SOk K F O ρ σ H) (hp : H p = none) : SOk K F O ρ σ (upd H p o) := by
  have ex : Ex H (upd H p o) := fun a u e => by rw [upd_ne (ne_of_none e hp)]; exact e
  have exh : Ex (hid (UU O ρ) H) (hid (UU O ρ) (upd H p o)) := ex_hid fun a u _ n h => ⟨n, ex a u h⟩
  refine ⟨I.len, fun i d e => ?_, fun i q ds e => ?_, I.nd, I.fr.trans ex, I.od, I.tb.ex ex, I.ft⟩
  · obtain ⟨v, h1, h2⟩ := I.dat i d e
    exact ⟨v, h1, h2.mono exh⟩
  · obtain ⟨h1, h2, vs, h3, h4⟩ := I.mt i q ds e
    exact ⟨h1, h2, vs, ex _ _ h3, h4.mono exh⟩
theorem SOk.nU {p : Addr} (I : SOk K F O ρ σ H) (hp : H p = none) : ¬ UU O ρ p := fun z => by
  rcases z with z | z
  · obtain ⟨u, e⟩ := I.od p z
    rw [I.fr p u e] at hp
    cases hp
  · obtain ⟨vs, e⟩ := I.ownH z
    rw [e] at hp
    cases hp
theorem SOk.newHid {p : Addr} {o : HO} [NT o] (I : SOk K F O ρ σ H) (hp : H p = none) : hid (UU O ρ) (upd H p o) p = some o := hid_of (I.nU hp) upd_same
theorem ex_new {U : Addr → Prop} {p : Addr} {o : HO} (hp : H p = none) : Ex (hid U H) (hid U (upd H p o)) := ex_hid fun a u _ n h => ⟨n, by rw [upd_ne (ne_of_none h hp)]; exact h⟩
end

/-! ### what evaluates to what -/
def EV (K : PySem.W.Frag) (t : TE) (ρ : Lo) (d : D) (ρ' : Lo) : Prop := owns ρ' = owns ρ ∧
  ∀ F O σ H (Q : VK), SOk K F O ρ σ H → (∀ v H', SOk K F O ρ' σ H' → Rep K (hid (UU O ρ') H') v d → Q v H') → t σ H Q
/-- a new list -/
def EN (K : PySem.W.Frag) (t : TE) (ρ : Lo) (ds : List D) (ρ' : Lo) : Prop := owns ρ' = owns ρ ∧
  ∀ F O σ H (Q : VK), SOk K F O ρ σ H → (∀ p vs H1, SOk K F O ρ' σ H1 → H1 p = none → Reps K (hid (UU O ρ') H1) vs ds → Q (.ref p) (upd H1 p (.lst vs))) → t σ H Q
def ET (K : PySem.W.Frag) (t : TT) (ρ : Lo) (b : Bool) (ρ' : Lo) : Prop := owns ρ' = owns ρ ∧
  ∀ F O σ H (Q : Bool → Hp → Prop), SOk K F O ρ σ H → (∀ H', SOk K F O ρ' σ H' → Q b H') → t σ H Q
/-- an argument: a datum, or the own list of a slot -/
inductive Ar where
  | dat (d : D) | own (i : Nat)
def ARep (K : PySem.W.Frag) (O : Addr → Prop) (ρ : Lo) (H : Hp) : V → Ar → Prop
  | v, .dat d => Rep K (hid (UU O ρ) H) v d
  | v, .own i => ∃ p ds, ρ[i]? = some (.mut p ds) ∧ v = .ref p
abbrev AReps (K : PySem.W.Frag) (O : Addr → Prop) (ρ : Lo) (H : Hp) : List V → List Ar → Prop := Paired (ARep K O ρ H)
def EA (K : PySem.W.Frag) (t : TA) (ρ : Lo) (as : List Ar) (ρ' : Lo) : Prop := owns ρ' = owns ρ ∧
  ∀ F O σ H (Q : List V → Hp → Prop), SOk K F O ρ σ H → (∀ vs H', SOk K F O ρ' σ H' → AReps K O ρ' H' vs as → Q vs H') → t σ H Q
/-- data alone -/
def ED (K : PySem.W.Frag) (t : TA) (ρ : Lo) (ds : List D) (ρ' : Lo) : Prop := owns ρ' = owns ρ ∧
  ∀ F O σ H (Q : List V → Hp → Prop), SOk K F O ρ σ H → (∀ vs H', SOk K F O ρ' σ H' → Reps K (hid (UU O ρ') H') vs ds → Q vs H') → t σ H Q

section
variable {K : PySem.W.Frag} {F : Hp} {O : Addr → Prop} {ρ ρ1 ρ2 : Lo} {σ : L2.St} {H : Hp} {ta tb te : TE} {x y z d : D}
theorem EN.ev {ds : List D} (h : EN K te ρ ds ρ1) : EV K te ρ (.lst ds) ρ1 := ⟨h.1, fun F O σ H Q I q => h.2 F O σ H Q I fun p vs H1 J hp r =>
  q _ _ (J.new hp) (.lst (J.newHid hp) (r.mono (ex_new hp)))⟩
theorem ev2 (ha : EV K ta ρ x ρ1) (hb : EV K tb ρ1 y ρ2) (I : SOk K F O ρ σ H) {R : V → V → Hp → Prop}
    (q : ∀ v w H2, SOk K F O ρ2 σ H2 → Rep K (hid (UU O ρ2) H2) v x → Rep K (hid (UU O ρ2) H2) w y → R v w H2) : ta σ H fun v H1 => tb σ H1 fun w H2 => R v w H2 :=
  ha.2 F O σ H _ I fun v H1 J r => hb.2 _ O σ H1 _ J.sup fun w H2 L r2 => q v w H2 (L.weak J.le_sup J.od) (SOk.keep hb.1 L r) r2
theorem ev3 {tc : TE} {ρ3 : Lo} (ha : EV K ta ρ x ρ1) (hb : EV K tb ρ1 y ρ2) (hc : EV K tc ρ2 z ρ3) (I : SOk K F O ρ σ H) {R : V → V → V → Hp → Prop}
    (q : ∀ v w u H2, SOk K F O ρ3 σ H2 → Rep K (hid (UU O ρ3) H2) v x → Rep K (hid (UU O ρ3) H2) w y → Rep K (hid (UU O ρ3) H2) u z → R v w u H2) : ta σ H fun v H1 => tb σ H1 fun w H2 => tc σ H2 fun u H3 => R v w u H3 :=
  ha.2 F O σ H _ I fun v H1 J r => hb.2 _ O σ H1 _ J.sup fun w H2 L r2 => hc.2 _ O σ H2 _ L.sup fun u H3 M r3 =>
    q v w u H3 ((M.weak L.le_sup L.od).weak J.le_sup J.od) (SOk.keep hc.1 M (SOk.keep hb.1 L r)) (SOk.keep hc.1 M r2) r3
/-- a two-place operation on data -/
def OpD (K : PySem.W.Frag) (r : R2) (x y z : D) : Prop := ∀ F O ρ σ H v w (Q : VK), SOk K F O ρ σ H → Rep K (hid (UU O ρ) H) v x → Rep K (hid (UU O ρ) H) w y →
  (∀ u H', SOk K F O ρ σ H' → Rep K (hid (UU O ρ) H') u z → Q u H') → r v w H Q
theorem ev_op {r : R2} (hd : OpD K r x y z) (ha : EV K ta ρ x ρ1) (hb : EV K tb ρ1 y ρ2) : EV K (tOp r ta tb) ρ z ρ2 :=
  ⟨hb.1.trans ha.1, fun F O σ H Q I q => ev2 ha hb I fun v w H2 J r1 r2 => hd F O ρ2 σ H2 v w Q J r1 r2 q⟩
/-- .. that makes a new list -/
def OpN (K : PySem.W.Frag) (r : R2) (x y : D) (ds : List D) : Prop := ∀ F O ρ σ H v w (Q : VK), SOk K F O ρ σ H → Rep K (hid (UU O ρ) H) v x → Rep K (hid (UU O ρ) H) w y →
  (∀ p vs H1, SOk K F O ρ σ H1 → H1 p = none → Reps K (hid (UU O ρ) H1) vs ds → Q (.ref p) (upd H1 p (.lst vs))) → r v w H Q
theorem en_op {r : R2} {ds : List D} (hd : OpN K r x y ds) (ha : EV K ta ρ x ρ1) (hb : EV K tb ρ1 y ρ2) : EN K (tOp r ta tb) ρ ds ρ2 :=
  ⟨hb.1.trans ha.1, fun F O σ H Q I q => ev2 ha hb I fun v w H2 J r1 r2 => hd F O ρ2 σ H2 v w Q J r1 r2 q⟩
theorem opd_I0 {g : Int → Int → D} {gv : Int → Int → V} {i j : Int} (hg : ∀ H, Rep K H (gv i j) (g i j)) : OpD K (rI0 gv) (.int i) (.int j) (g i j) := fun F O ρ σ H v w Q I rv rw' q => by
  cases rv; cases rw'
  exact ⟨i, j, rfl, rfl, q _ _ I (hg _)⟩
theorem opd_I {C : Int → Int → Prop} {g : Int → Int → D} {gv : Int → Int → V} {i j : Int} (hc : C i j) (hg : ∀ H, Rep K H (gv i j) (g i j)) : OpD K (rI C gv) (.int i) (.int j) (g i j) := fun F O ρ σ H v w Q I rv rw' q => by
  cases rv; cases rw'
  exact ⟨i, j, rfl, rfl, hc, q _ _ I (hg _)⟩
/-- a call on data -/
def CbD (K : PySem.W.Frag) (r : List V → Hp → VK → Prop) (ds : List D) (z : D) : Prop := ∀ F O ρ σ H vs (Q : VK), SOk K F O ρ σ H → Reps K (hid (UU O ρ) H) vs ds →
  (∀ u H', SOk K F O ρ σ H' → Rep K (hid (UU O ρ) H') u z → Q u H') → r vs H Q
def CbN (K : PySem.W.Frag) (r : List V → Hp → VK → Prop) (ds : List D) (es : List D) : Prop := ∀ F O ρ σ H vs (Q : VK), SOk K F O ρ σ H → Reps K (hid (UU O ρ) H) vs ds →
  (∀ p ws H1, SOk K F O ρ σ H1 → H1 p = none → Reps K (hid (UU O ρ) H1) ws es → Q (.ref p) (upd H1 p (.lst ws))) → r vs H Q
theorem ev_cb {r : List V → Hp → VK → Prop} {t : TA} {ds : List D} (hd : CbD K r ds z) (h : ED K t ρ ds ρ1) : EV K (tCB r t) ρ z ρ1 :=
  ⟨h.1, fun F O σ H Q I q => h.2 F O σ H _ I fun vs H1 J r1 => hd F O ρ1 σ H1 vs Q J r1 q⟩
theorem en_cb {r : List V → Hp → VK → Prop} {t : TA} {ds es : List D} (hd : CbN K r ds es) (h : ED K t ρ ds ρ1) : EN K (tCB r t) ρ es ρ1 :=
  ⟨h.1, fun F O σ H Q I q => h.2 F O σ H _ I fun vs H1 J r1 => hd F O ρ1 σ H1 vs Q J r1 q⟩
theorem ed_nil : ED K tNil ρ [] ρ := ⟨rfl, fun F O σ H Q I q => q [] H I .nil⟩
theorem ed_cons {t : TA} {ds : List D} (h : EV K te ρ d ρ1) (hr : ED K t ρ1 ds ρ2) : ED K (tCons te t) ρ (d :: ds) ρ2 :=
  ⟨hr.1.trans h.1, fun F O σ H Q I q => h.2 F O σ H _ I fun v H1 J r => hr.2 _ O σ H1 _ J.sup fun vs H2 L rs => q _ H2 (L.weak J.le_sup J.od) (.cons (SOk.keep hr.1 L r) rs)⟩
theorem ea_nil : EA K tNil ρ [] ρ := ⟨rfl, fun F O σ H Q I q => q [] H I .nil⟩
end
end VL
end

section
set_option Elab.async false
set_option linter.all false
set_option maxRecDepth 100000
set_option maxHeartbeats 4000000
namespace VL
open PySem PySem.Spec PyProof.Rows L2

/-! ### the judgements over the text -/
def tw (X : Cx) (e : Expr) : TE := fun σ H Q => ∀ (pins : List (Addr × Obj)) (s : Shared), Inv X pins σ H s → wpAny (model X.prog X.w) X.A (eval e X.env) (EP X pins σ Q) X.xe s
def twT (X : Cx) (e : Expr) : TT := fun σ H Q => ∀ (pins : List (Addr × Obj)) (s : Shared), Inv X pins σ H s → wpAny (model X.prog X.w) X.A (isTrue e X.env (eval e X.env)) (TP X pins σ Q) X.xe s
def twW (X : Cx) (e : Expr) : TT := fun σ H Q => ∀ (wh : Sem Value) (pins : List (Addr × Obj)) (s : Shared), Inv X pins σ H s → wpAny (model X.prog X.w) X.A (isTrue e X.env wh) (TP X pins σ Q) X.xe s
def twA (X : Cx) (es : List Expr) : TA := fun σ H Q => ∀ (pos : Pos) (pins : List (Addr × Obj)) (s : Shared), Inv X pins σ H s → wpAny (model X.prog X.w) X.A (spliced (backTo pos (starEach es X.env))) (AP X pins σ Q) X.xe s
section
variable {X : Cx} {e a b c : Expr} {es : List Expr}
theorem pe_tw : PE X e (tw X e) := ⟨fun pins s _ _ _ I h => h pins s I⟩
theorem pt_tw : PT X e (twT X e) := ⟨fun pins s _ _ _ I h => h pins s I⟩
theorem pw_tw : PW X e (twW X e) := ⟨fun wh pins s _ _ _ I h => h wh pins s I⟩
theorem pa_tw : PA X es (twA X es) := ⟨fun pos pins s _ _ _ I h => h pos pins s I⟩
def CE (X : Cx) (ρ : Lo) (e : Expr) (d : D) (ρ' : Lo) : Prop := EV X.K (tw X e) ρ d ρ'
def CN (X : Cx) (ρ : Lo) (e : Expr) (ds : List D) (ρ' : Lo) : Prop := EN X.K (tw X e) ρ ds ρ'
def CT (X : Cx) (ρ : Lo) (e : Expr) (b : Bool) (ρ' : Lo) : Prop := ET X.K (twT X e) ρ b ρ'
def CW (X : Cx) (ρ : Lo) (e : Expr) (b : Bool) (ρ' : Lo) : Prop := ET X.K (twW X e) ρ b ρ'
def CD (X : Cx) (ρ : Lo) (es : List Expr) (ds : List D) (ρ' : Lo) : Prop := ED X.K (twA X es) ρ ds ρ'
def CA (X : Cx) (ρ : Lo) (es : List Expr) (as : List Ar) (ρ' : Lo) : Prop := EA X.K (twA X es) ρ as ρ'
variable {ρ ρ1 ρ2 ρ3 : Lo} {x y z d : D} {pos p : Pos}
theorem CE.of {t : TE} (h : PE X e t) (v : EV X.K t ρ d ρ1) : CE X ρ e d ρ1 := ⟨v.1, fun F O σ H Q I q pins s J => h.run pins s σ H Q J (v.2 F O σ H Q I q)⟩
theorem CN.of {t : TE} {ds : List D} (h : PE X e t) (v : EN X.K t ρ ds ρ1) : CN X ρ e ds ρ1 := ⟨v.1, fun F O σ H Q I q pins s J => h.run pins s σ H Q J (v.2 F O σ H Q I q)⟩
theorem CT.of {t : TT} {k : Bool} (h : PT X e t) (v : ET X.K t ρ k ρ1) : CT X ρ e k ρ1 := ⟨v.1, fun F O σ H Q I q pins s J => h.run pins s σ H Q J (v.2 F O σ H Q I q)⟩
theorem CW.of {t : TT} {k : Bool} (h : PW X e t) (v : ET X.K t ρ k ρ1) : CW X ρ e k ρ1 := ⟨v.1, fun F O σ H Q I q wh pins s J => h.run wh pins s σ H Q J (v.2 F O σ H Q I q)⟩
theorem CD.of {t : TA} {ds : List D} (h : PA X es t) (v : ED X.K t ρ ds ρ1) : CD X ρ es ds ρ1 := ⟨v.1, fun F O σ H Q I q pos pins s J => h.run pos pins s σ H Q J (v.2 F O σ H Q I q)⟩
theorem CA.of {t : TA} {as : List Ar} (h : PA X es t) (v : EA X.K t ρ as ρ1) : CA X ρ es as ρ1 := ⟨v.1, fun F O σ H Q I q pos pins s J => h.run pos pins s σ H Q J (v.2 F O σ H Q I q)⟩
theorem CN.ce {ds : List D} (h : CN X ρ e ds ρ1) : CE X ρ e (.lst ds) ρ1 := EN.ev h
theorem CE.eq (h : CE X ρ e x ρ1) (q : x = y) : CE X ρ e y ρ1 := q ▸ h
theorem CN.eq {xs ys : List D} (h : CN X ρ e xs ρ1) (q : xs = ys) : CN X ρ e ys ρ1 := q ▸ h
theorem CT.eq {j k : Bool} (h : CT X ρ e j ρ1) (q : j = k) : CT X ρ e k ρ1 := q ▸ h

/-! ### names, constants -/
theorem c_var (i : Nat) {n : Str} (hd : ρ[i]? = some (.dat d) := by rfl) (hN : X.N[i]? = some n := by rfl) (hv : Vis X.env.scope n := by first | exact Or.inl rfl | exact Or.inr (Or.inl rfl) | exact Or.inr (Or.inr rfl))
    (h1 : (n == ("__debug__" : Str)) = false := by decide) (h2 : (n == ("__classdict__" : Str)) = false := by decide) : CE X ρ (.Name n p) d ρ :=
  .of (pe_var hN hv h1 h2) ⟨rfl, fun F O σ H Q I q => by
    obtain ⟨v, h1, h2⟩ := I.dat i d hd
    exact ⟨v, h1, q v H I h2⟩⟩
theorem ev_c {v : V} (r : ∀ H, Rep X.K H v d) : EV X.K (tC v) ρ d ρ := ⟨rfl, fun F O σ H Q I q => q v H I (r _)⟩
theorem c_int {i : Int} {j} : CE X ρ (.Constant (.int i) j pos) (.int i) ρ := .of pe_int (ev_c fun _ => .int i)
theorem c_bl {i : Bool} {j} : CE X ρ (.Constant (.bool i) j pos) (.bl i) ρ := .of pe_bl (ev_c fun _ => .bl i)
theorem c_non {j} : CE X ρ (.Constant .none j pos) .non ρ := .of pe_non (ev_c fun _ => .non)
theorem c_str {i : Str} {j} : CE X ρ (.Constant (.str i) j pos) (.str i) ρ := .of pe_str (ev_c fun _ => .str i)
/-- a number of the module -/
theorem c_gint {n : Str} {i : Int} (hm : ∃ t : Tok, X.mg n = some (.int i t)) (hg : Gl X n := by rfl) (hd : (n == ("__debug__" : Str)) = false := by decide) : CE X ρ (.Name n p) (.int i) ρ := let ⟨t, hm⟩ := hm; .of (pe_glob (v := .int i) hg hm ⟨_, rfl⟩ hd) (ev_c fun _ => .int i)
/-- a def, a class of the module -/
theorem c_gref {n : Str} {a : Addr} (hm : X.mg n = some (.ref a)) (hg : Gl X n := by rfl) (hd : (n == ("__debug__" : Str)) = false := by decide) : CE X ρ (.Name n p) (.adr a) ρ := .of (pe_glob (v := .ref a) hg hm rfl hd) (ev_c fun _ => .adr a)
/-- a built-in class -/
theorem c_bty {n : Str} (T : String) (hm : X.mg n = none) (hv : bootBuiltins n = some (.type T) := by decide +kernel) (hg : Gl X n := by rfl) (hn : n ≠ "__name__" := by decide) (hd : (n == ("__debug__" : Str)) = false := by decide) : CE X ρ (.Name n p) (.ty T) ρ := .of (pe_bltn (v := .ty T) hg hm hv rfl hn hd) (ev_c fun _ => .ty T)

/-! ### operators -/
theorem c_bin {op : Operator} {r : R2} (ho : OpR X (binaryOp op) r) (hd : OpD X.K r x y z) (ha : CE X ρ a x ρ1) (hb : CE X ρ1 b y ρ2) : CE X ρ (.BinOp a op b pos) z ρ2 := .of (pe_op ho pe_tw pe_tw) (ev_op hd ha hb)
theorem n_bin {op : Operator} {r : R2} {ds : List D} (ho : OpR X (binaryOp op) r) (hd : OpN X.K r x y ds) (ha : CE X ρ a x ρ1) (hb : CE X ρ1 b y ρ2) : CN X ρ (.BinOp a op b pos) ds ρ2 := .of (pe_op ho pe_tw pe_tw) (en_op hd ha hb)
variable {i j : Int}
theorem c_add (ha : CE X ρ a (.int i) ρ1) (hb : CE X ρ1 b (.int j) ρ2) : CE X ρ (.BinOp a .Add b pos) (.int (i + j)) ρ2 := c_bin op_add (opd_I0 (g := fun i j => .int (i + j)) fun _ => .int _) ha hb
theorem c_sub (ha : CE X ρ a (.int i) ρ1) (hb : CE X ρ1 b (.int j) ρ2) : CE X ρ (.BinOp a .Sub b pos) (.int (i - j)) ρ2 := c_bin op_sub (opd_I0 (g := fun i j => .int (i - j)) fun _ => .int _) ha hb
theorem c_mul (ha : CE X ρ a (.int i) ρ1) (hb : CE X ρ1 b (.int j) ρ2) (hc : CMul i j) : CE X ρ (.BinOp a .Mult b pos) (.int (i * j)) ρ2 := c_bin op_mul (opd_I (g := fun i j => .int (i * j)) hc fun _ => .int _) ha hb
theorem c_mulW (ha : CE X ρ a (.int i) ρ1) (hb : CE X ρ1 b (.int j) ρ2) (hc : CMulW i j) : CE X ρ (.BinOp a .Mult b pos) (.int (i * j)) ρ2 := c_bin op_mulW (opd_I (g := fun i j => .int (i * j)) hc fun _ => .int _) ha hb
theorem c_div (ha : CE X ρ a (.int i) ρ1) (hb : CE X ρ1 b (.int j) ρ2) (hc : CDiv i j) : CE X ρ (.BinOp a .FloorDiv b pos) (.int (i / j)) ρ2 := c_bin op_fdiv (opd_I (g := fun i j => .int (i / j)) hc fun _ => .int _) ha hb
theorem c_divW (ha : CE X ρ a (.int i) ρ1) (hb : CE X ρ1 b (.int j) ρ2) (hc : CDivW i j) : CE X ρ (.BinOp a .FloorDiv b pos) (.int (i / j)) ρ2 := c_bin op_fdivW (opd_I (g := fun i j => .int (i / j)) hc fun _ => .int _) ha hb
theorem c_mod (ha : CE X ρ a (.int i) ρ1) (hb : CE X ρ1 b (.int j) ρ2) (hc : 0 < j) : CE X ρ (.BinOp a .Mod b pos) (.int (i % j)) ρ2 := c_bin op_mod (opd_I (C := fun _ j => 0 < j) (g := fun i j => .int (i % j)) hc fun _ => .int _) ha hb
theorem c_pow (ha : CE X ρ a (.int i) ρ1) (hb : CE X ρ1 b (.int j) ρ2) (hc : CPow i j) : CE X ρ (.BinOp a .Pow b pos) (.int (i ^ j.toNat)) ρ2 := c_bin op_pow (opd_I (g := fun i j => .int (i ^ j.toNat)) hc fun _ => .int _) ha hb
theorem c_neg (ha : CE X ρ a (.int i) ρ1) : CE X ρ (.UnaryOp .USub a pos) (.int (-i)) ρ1 := .of (pe_un un_neg pe_tw) ⟨ha.1, fun F O σ H Q I q => ha.2 F O σ H _ I fun v H1 J r => by
  cases r
  exact ⟨i, rfl, q _ _ J (.int _)⟩⟩
theorem c_cmp {op : CmpOp} {r : R2} (ho : OpR X (compareOp op) r) (hd : OpD X.K r x y z) (ha : CE X ρ a x ρ1) (hb : CE X ρ1 b y ρ2) (hm : behindInMarks op b = false) : CE X ρ (.Compare a [op] [b] pos) z ρ2 := .of (pe_cmpR ho pe_tw pe_tw hm) (ev_op hd ha hb)
theorem c_lt (ha : CE X ρ a (.int i) ρ1) (hb : CE X ρ1 b (.int j) ρ2) : CE X ρ (.Compare a [.Lt] [b] pos) (.bl (decide (i < j))) ρ2 := c_cmp op_lt (opd_I0 (g := fun i j => .bl (decide (i < j))) fun _ => .bl _) ha hb (nomark _)
theorem c_le (ha : CE X ρ a (.int i) ρ1) (hb : CE X ρ1 b (.int j) ρ2) : CE X ρ (.Compare a [.LtE] [b] pos) (.bl (decide (i ≤ j))) ρ2 := c_cmp op_le (opd_I0 (g := fun i j => .bl (decide (i ≤ j))) fun _ => .bl _) ha hb (nomark _)
theorem c_gt (ha : CE X ρ a (.int i) ρ1) (hb : CE X ρ1 b (.int j) ρ2) : CE X ρ (.Compare a [.Gt] [b] pos) (.bl (decide (j < i))) ρ2 := c_cmp op_gt (opd_I0 (g := fun i j => .bl (decide (j < i))) fun _ => .bl _) ha hb (nomark _)
theorem c_ge (ha : CE X ρ a (.int i) ρ1) (hb : CE X ρ1 b (.int j) ρ2) : CE X ρ (.Compare a [.GtE] [b] pos) (.bl (decide (j ≤ i))) ρ2 := c_cmp op_ge (opd_I0 (g := fun i j => .bl (decide (j ≤ i))) fun _ => .bl _) ha hb (nomark _)
/-- == of plain things of the kinds of scal -/
theorem opd_eq {v w : V} (rv : ∀ H u, Rep X.K H u x → u = v) (rw' : ∀ H u, Rep X.K H u y → u = w) (hs : scal v w = true) : OpD X.K rEq x y (.bl (decide (v = w))) := fun F O ρ σ H v' w' Q I r1 r2 q => by
  rw [rv _ _ r1, rw' _ _ r2]
  exact ⟨hs, q _ _ I (.bl _)⟩
theorem opd_ne {v w : V} (rv : ∀ H u, Rep X.K H u x → u = v) (rw' : ∀ H u, Rep X.K H u y → u = w) (hs : scal v w = true) : OpD X.K rNe x y (.bl (!decide (v = w))) := fun F O ρ σ H v' w' Q I r1 r2 q => by
  rw [rv _ _ r1, rw' _ _ r2]
  exact ⟨hs, q _ _ I (.bl _)⟩
theorem rint {K : PySem.W.Frag} {H : Hp} {u : V} (r : Rep K H u (.int i)) : u = .int i := by cases r; rfl
theorem rbl {K : PySem.W.Frag} {H : Hp} {u : V} {k : Bool} (r : Rep K H u (.bl k)) : u = .bl k := by cases r; rfl
theorem rstr {K : PySem.W.Frag} {H : Hp} {u : V} {k : Str} (r : Rep K H u (.str k)) : u = .str k := by cases r; rfl
theorem rnon {K : PySem.W.Frag} {H : Hp} {u : V} (r : Rep K H u .non) : u = .non := by cases r; rfl
theorem dInt : decide (V.int i = V.int j) = decide (i = j) := by
  by_cases h : i = j
  · subst h; simp
  · rw [decide_eq_false h, decide_eq_false fun z => h (V.int.inj z)]
theorem dBl {i j : Bool} : decide (V.bl i = V.bl j) = decide (i = j) := by
  by_cases h : i = j
  · subst h; simp
  · rw [decide_eq_false h, decide_eq_false fun z => h (V.bl.inj z)]
theorem dStr {i j : Str} : decide (V.str i = V.str j) = decide (i = j) := by
  by_cases h : i = j
  · subst h; simp
  · rw [decide_eq_false h, decide_eq_false fun z => h (V.str.inj z)]
theorem c_eqI (ha : CE X ρ a (.int i) ρ1) (hb : CE X ρ1 b (.int j) ρ2) : CE X ρ (.Compare a [.Eq] [b] pos) (.bl (decide (i = j))) ρ2 := (c_cmp op_eq (opd_eq (fun _ _ r => rint r) (fun _ _ r => rint r) rfl) ha hb (nomark _)).eq (congrArg D.bl dInt)
theorem c_neI (ha : CE X ρ a (.int i) ρ1) (hb : CE X ρ1 b (.int j) ρ2) : CE X ρ (.Compare a [.NotEq] [b] pos) (.bl (!decide (i = j))) ρ2 := (c_cmp op_ne (opd_ne (fun _ _ r => rint r) (fun _ _ r => rint r) rfl) ha hb (nomark _)).eq (congrArg (fun z => D.bl (!z)) dInt)
theorem c_eqB {i j : Bool} (ha : CE X ρ a (.bl i) ρ1) (hb : CE X ρ1 b (.bl j) ρ2) : CE X ρ (.Compare a [.Eq] [b] pos) (.bl (decide (i = j))) ρ2 := (c_cmp op_eq (opd_eq (fun _ _ r => rbl r) (fun _ _ r => rbl r) rfl) ha hb (nomark _)).eq (congrArg D.bl dBl)
theorem c_neB {i j : Bool} (ha : CE X ρ a (.bl i) ρ1) (hb : CE X ρ1 b (.bl j) ρ2) : CE X ρ (.Compare a [.NotEq] [b] pos) (.bl (!decide (i = j))) ρ2 := (c_cmp op_ne (opd_ne (fun _ _ r => rbl r) (fun _ _ r => rbl r) rfl) ha hb (nomark _)).eq (congrArg (fun z => D.bl (!z)) dBl)
theorem c_eqS {i j : Str} (ha : CE X ρ a (.str i) ρ1) (hb : CE X ρ1 b (.str j) ρ2) : CE X ρ (.Compare a [.Eq] [b] pos) (.bl (decide (i = j))) ρ2 := (c_cmp op_eq (opd_eq (fun _ _ r => rstr r) (fun _ _ r => rstr r) rfl) ha hb (nomark _)).eq (congrArg D.bl dStr)
theorem c_neS {i j : Str} (ha : CE X ρ a (.str i) ρ1) (hb : CE X ρ1 b (.str j) ρ2) : CE X ρ (.Compare a [.NotEq] [b] pos) (.bl (!decide (i = j))) ρ2 := (c_cmp op_ne (opd_ne (fun _ _ r => rstr r) (fun _ _ r => rstr r) rfl) ha hb (nomark _)).eq (congrArg (fun z => D.bl (!z)) dStr)
/-- is None -/
def isNon : D → Bool
  | .non => true
  | _ => false
theorem isNon_of {K : PySem.W.Frag} {H : Hp} {v : V} (r : Rep K H v x) : decide (v = V.non) = isNon x := by cases r <;> rfl
theorem c_isN (ha : CE X ρ a x ρ1) (hb : CE X ρ1 b .non ρ2) : CE X ρ (.Compare a [.Is] [b] pos) (.bl (isNon x)) ρ2 := c_cmp op_isN (fun F O ρ σ H v w Q I r1 r2 q => by
  cases r2
  refine ⟨rfl, ?_⟩
  rw [isNon_of r1]
  exact q _ _ I (.bl _)) ha hb (nomark _)
theorem c_notN (ha : CE X ρ a x ρ1) (hb : CE X ρ1 b .non ρ2) : CE X ρ (.Compare a [.IsNot] [b] pos) (.bl (!isNon x)) ρ2 := c_cmp op_notN (fun F O ρ σ H v w Q I r1 r2 q => by
  cases r2
  refine ⟨rfl, ?_⟩
  rw [isNon_of r1]
  exact q _ _ I (.bl _)) ha hb (nomark _)

/-! ### chains: a < b < c -/
theorem ev_chain {r1 r2 : R2} {ta tb tc : TE} {k l : Bool} (d1 : OpD X.K r1 x y (.bl k)) (d2 : OpD X.K r2 y z (.bl l)) (ha : EV X.K ta ρ x ρ1) (hb : EV X.K tb ρ1 y ρ2) (hc : k = true → EV X.K tc ρ2 z ρ2) :
    EV X.K (tChain r1 r2 ta tb tc) ρ (.bl (k && l)) ρ2 := ⟨hb.1.trans ha.1, fun F O σ H Q I q => ev2 ha hb I fun v w H2 J rv rw' => by
  refine d1 _ O ρ2 σ H2 v w _ J.sup rv rw' fun u H3 L ru => ?_
  have L' := L.weak J.le_sup J.od
  have rw3 := SOk.keep rfl L rw'
  cases ru
  refine ⟨k, rfl, ?_⟩
  cases k with
  | false => rw [if_neg Bool.false_ne_true]; exact q _ _ L' (.bl _)
  | true =>
    rw [if_pos rfl]
    refine (hc rfl).2 _ O σ H3 _ L'.sup fun w' H4 M r4 => ?_
    refine d2 F O ρ2 σ H4 w w' Q (M.weak L'.le_sup L'.od) (SOk.keep rfl M rw3) r4 fun u H5 N r5 => ?_
    exact q u H5 N r5⟩
theorem c_chain {o1 o2 : CmpOp} {r1 r2 : R2} {k l : Bool} (h1 : OpR X (compareOp o1) r1) (h2 : OpR X (compareOp o2) r2) (d1 : OpD X.K r1 x y (.bl k)) (d2 : OpD X.K r2 y z (.bl l)) (ha : CE X ρ a x ρ1) (hb : CE X ρ1 b y ρ2) (hc : k = true → CE X ρ2 c z ρ2)
    (hm : lastMarks [o1, o2] [b, c] = false := by with_unfolding_all rfl) : CE X ρ (.Compare a [o1, o2] [b, c] pos) (.bl (k && l)) ρ2 := .of (pe_chain h1 h2 pe_tw pe_tw pe_tw hm) (ev_chain d1 d2 ha hb hc)
theorem c_leLe {i j m : Int} (ha : CE X ρ a (.int i) ρ1) (hb : CE X ρ1 b (.int j) ρ2) (hc : i ≤ j → CE X ρ2 c (.int m) ρ2) (hm : lastMarks [.LtE, .LtE] [b, c] = false := by with_unfolding_all rfl) :
    CE X ρ (.Compare a [.LtE, .LtE] [b, c] pos) (.bl (decide (i ≤ j) && decide (j ≤ m))) ρ2 :=
  c_chain op_le op_le (opd_I0 (g := fun i j => .bl (decide (i ≤ j))) fun _ => .bl _) (opd_I0 (g := fun i j => .bl (decide (i ≤ j))) fun _ => .bl _) ha hb (fun h => hc (of_decide_eq_true h)) hm

/-! ### and, or, not, if -/
/-- a value that is a truth, as a test -/
theorem t_val {k : Bool} (h : CE X ρ e (.bl k) ρ1) (he : ∀ whole, isTrue e X.env whole = (do let v ← whole; standAt e.pos; holding [v] (truthy v)) := by intro _; rfl) : CT X ρ e k ρ1 := .of (pt_val pe_tw he) ⟨h.1, fun F O σ H Q I q => h.2 F O σ H _ I fun v H1 J r => by
  cases r
  exact ⟨k, rfl, q _ J⟩⟩
/-- a comparison as a test -/
theorem t_cmp {op : CmpOp} {k : Bool} {r : R2} (ho : OpR X (compareOp op) r) (hd : OpD X.K r x y (.bl k)) (ha : CE X ρ a x ρ1) (hb : CE X ρ1 b y ρ2) (hm : behindInMarks op b = false) : CT X ρ (.Compare a [op] [b] pos) k ρ2 := .of (pt_cmpR ho pe_tw pe_tw hm)
  ⟨hb.1.trans ha.1, fun F O σ H Q I q => (ev_op hd ha hb).2 F O σ H _ I fun v H1 J r => by
    cases r
    exact ⟨k, rfl, q _ J⟩⟩
theorem t_chain {o1 o2 : CmpOp} {r1 r2 : R2} {k l : Bool} (h1 : OpR X (compareOp o1) r1) (h2 : OpR X (compareOp o2) r2) (d1 : OpD X.K r1 x y (.bl k)) (d2 : OpD X.K r2 y z (.bl l)) (ha : CE X ρ a x ρ1) (hb : CE X ρ1 b y ρ2) (hc : k = true → CE X ρ2 c z ρ2)
    (hm : lastMarks [o1, o2] [b, c] = false := by with_unfolding_all rfl) : CT X ρ (.Compare a [o1, o2] [b, c] pos) (k && l) ρ2 := .of (pt_chain h1 h2 pe_tw pe_tw pe_tw hm)
  ⟨hb.1.trans ha.1, fun F O σ H Q I q => (ev_chain d1 d2 ha hb hc).2 F O σ H _ I fun v H1 J r => by
    cases r
    exact ⟨_, rfl, q _ J⟩⟩
theorem t_lt (ha : CE X ρ a (.int i) ρ1) (hb : CE X ρ1 b (.int j) ρ2) : CT X ρ (.Compare a [.Lt] [b] pos) (decide (i < j)) ρ2 := t_cmp op_lt (opd_I0 (g := fun i j => .bl (decide (i < j))) fun _ => .bl _) ha hb (nomark _)
theorem t_le (ha : CE X ρ a (.int i) ρ1) (hb : CE X ρ1 b (.int j) ρ2) : CT X ρ (.Compare a [.LtE] [b] pos) (decide (i ≤ j)) ρ2 := t_cmp op_le (opd_I0 (g := fun i j => .bl (decide (i ≤ j))) fun _ => .bl _) ha hb (nomark _)
theorem t_gt (ha : CE X ρ a (.int i) ρ1) (hb : CE X ρ1 b (.int j) ρ2) : CT X ρ (.Compare a [.Gt] [b] pos) (decide (j < i)) ρ2 := t_cmp op_gt (opd_I0 (g := fun i j => .bl (decide (j < i))) fun _ => .bl _) ha hb (nomark _)
theorem t_ge (ha : CE X ρ a (.int i) ρ1) (hb : CE X ρ1 b (.int j) ρ2) : CT X ρ (.Compare a [.GtE] [b] pos) (decide (j ≤ i)) ρ2 := t_cmp op_ge (opd_I0 (g := fun i j => .bl (decide (j ≤ i))) fun _ => .bl _) ha hb (nomark _)
theorem t_eqI (ha : CE X ρ a (.int i) ρ1) (hb : CE X ρ1 b (.int j) ρ2) : CT X ρ (.Compare a [.Eq] [b] pos) (decide (i = j)) ρ2 := (t_cmp op_eq (opd_eq (fun _ _ r => rint r) (fun _ _ r => rint r) rfl) ha hb (nomark _)).eq dInt
theorem t_neI (ha : CE X ρ a (.int i) ρ1) (hb : CE X ρ1 b (.int j) ρ2) : CT X ρ (.Compare a [.NotEq] [b] pos) (!decide (i = j)) ρ2 := (t_cmp op_ne (opd_ne (fun _ _ r => rint r) (fun _ _ r => rint r) rfl) ha hb (nomark _)).eq (congrArg (fun z => !z) dInt)
theorem t_eqB {i j : Bool} (ha : CE X ρ a (.bl i) ρ1) (hb : CE X ρ1 b (.bl j) ρ2) : CT X ρ (.Compare a [.Eq] [b] pos) (decide (i = j)) ρ2 := (t_cmp op_eq (opd_eq (fun _ _ r => rbl r) (fun _ _ r => rbl r) rfl) ha hb (nomark _)).eq dBl
theorem t_neB {i j : Bool} (ha : CE X ρ a (.bl i) ρ1) (hb : CE X ρ1 b (.bl j) ρ2) : CT X ρ (.Compare a [.NotEq] [b] pos) (!decide (i = j)) ρ2 := (t_cmp op_ne (opd_ne (fun _ _ r => rbl r) (fun _ _ r => rbl r) rfl) ha hb (nomark _)).eq (congrArg (fun z => !z) dBl)
theorem t_eqS {i j : Str} (ha : CE X ρ a (.str i) ρ1) (hb : CE X ρ1 b (.str j) ρ2) : CT X ρ (.Compare a [.Eq] [b] pos) (decide (i = j)) ρ2 := (t_cmp op_eq (opd_eq (fun _ _ r => rstr r) (fun _ _ r => rstr r) rfl) ha hb (nomark _)).eq dStr
theorem t_leLe {i j m : Int} (ha : CE X ρ a (.int i) ρ1) (hb : CE X ρ1 b (.int j) ρ2) (hc : i ≤ j → CE X ρ2 c (.int m) ρ2) (hm : lastMarks [.LtE, .LtE] [b, c] = false := by with_unfolding_all rfl) :
    CT X ρ (.Compare a [.LtE, .LtE] [b, c] pos) (decide (i ≤ j) && decide (j ≤ m)) ρ2 :=
  t_chain op_le op_le (opd_I0 (g := fun i j => .bl (decide (i ≤ j))) fun _ => .bl _) (opd_I0 (g := fun i j => .bl (decide (i ≤ j))) fun _ => .bl _) ha hb (fun h => hc (of_decide_eq_true h)) hm
theorem t_isN (ha : CE X ρ a x ρ1) (hb : CE X ρ1 b .non ρ2) : CT X ρ (.Compare a [.Is] [b] pos) (isNon x) ρ2 := t_cmp op_isN (fun F O ρ σ H v w Q I r1 r2 q => by
  cases r2
  refine ⟨rfl, ?_⟩
  rw [isNon_of r1]
  exact q _ _ I (.bl _)) ha hb (nomark _)
theorem t_notN (ha : CE X ρ a x ρ1) (hb : CE X ρ1 b .non ρ2) : CT X ρ (.Compare a [.IsNot] [b] pos) (!isNon x) ρ2 := t_cmp op_notN (fun F O ρ σ H v w Q I r1 r2 q => by
  cases r2
  refine ⟨rfl, ?_⟩
  rw [isNon_of r1]
  exact q _ _ I (.bl _)) ha hb (nomark _)
theorem et_and {t u : TT} {k l : Bool} (h1 : ET X.K t ρ k ρ1) (h2 : k = true → ET X.K u ρ1 l ρ2) (hs : k = false → ρ2 = ρ1) : ET X.K (tAnd t u) ρ (k && l) ρ2 := by
  cases k with
  | true => exact ⟨(h2 rfl).1.trans h1.1, fun F O σ H Q I q => h1.2 F O σ H _ I fun H1 J => by
      rw [if_pos rfl]
      exact (h2 rfl).2 F O σ H1 Q J q⟩
  | false =>
    obtain rfl := hs rfl
    exact ⟨h1.1, fun F O σ H Q I q => h1.2 F O σ H _ I fun H1 J => by
      rw [if_neg Bool.false_ne_true]
      exact q H1 J⟩
theorem et_or {t u : TT} {k l : Bool} (h1 : ET X.K t ρ k ρ1) (h2 : k = false → ET X.K u ρ1 l ρ2) (hs : k = true → ρ2 = ρ1) : ET X.K (tOr t u) ρ (k || l) ρ2 := by
  cases k with
  | false => exact ⟨(h2 rfl).1.trans h1.1, fun F O σ H Q I q => h1.2 F O σ H _ I fun H1 J => by
      rw [if_neg Bool.false_ne_true]
      exact (h2 rfl).2 F O σ H1 Q J q⟩
  | true =>
    obtain rfl := hs rfl
    exact ⟨h1.1, fun F O σ H Q I q => h1.2 F O σ H _ I fun H1 J => by
      rw [if_pos rfl]
      exact q H1 J⟩
variable {k l : Bool} {rest : List Expr}
theorem w_and1 (ha : CT X ρ a k ρ1) : CW X ρ (.BoolOp .And [a] pos) k ρ1 := .of (pw_and1 pt_tw) ha
theorem w_or1 (ha : CT X ρ a k ρ1) : CW X ρ (.BoolOp .Or [a] pos) k ρ1 := .of (pw_or1 pt_tw) ha
theorem w_and (ha : CT X ρ a k ρ1) (hb : k = true → CW X ρ1 (.BoolOp .And (b :: rest) pos) l ρ2) (hs : k = false → ρ2 = ρ1 := by intro _; rfl) : CW X ρ (.BoolOp .And (a :: b :: rest) pos) (k && l) ρ2 := .of (pw_and pt_tw pw_tw) (et_and ha hb hs)
theorem w_or (ha : CT X ρ a k ρ1) (hb : k = false → CW X ρ1 (.BoolOp .Or (b :: rest) pos) l ρ2) (hs : k = true → ρ2 = ρ1 := by intro _; rfl) : CW X ρ (.BoolOp .Or (a :: b :: rest) pos) (k || l) ρ2 := .of (pw_or pt_tw pw_tw) (et_or ha hb hs)
theorem t_w (h : CW X ρ e k ρ1) : CT X ρ e k ρ1 := .of (PW.pt pw_tw) h
theorem t_not (ha : CT X ρ a k ρ1) : CT X ρ (.UnaryOp .Not a pos) (!k) ρ1 := .of (pt_not pt_tw) ⟨ha.1, fun F O σ H Q I q => ha.2 F O σ H _ I fun H1 J => q H1 J⟩
/-- as values, all truths -/
theorem c_one {op} (h : CE X ρ a x ρ1) : CE X ρ (.BoolOp op [a] pos) x ρ1 := .of (pe_one pe_tw) h
theorem c_and (ha : CE X ρ a (.bl k) ρ1) (hb : k = true → CE X ρ1 (.BoolOp .And (b :: rest) pos) (.bl l) ρ2) (hs : k = false → ρ2 = ρ1 := by intro _; rfl) : CE X ρ (.BoolOp .And (a :: b :: rest) pos) (.bl (k && l)) ρ2 := by
  cases k with
  | true => exact .of (pe_and pe_tw pe_tw) ⟨(hb rfl).1.trans ha.1, fun F O σ H Q I q => ha.2 F O σ H _ I fun v H1 J r => by
      cases r
      refine ⟨_, rfl, ?_⟩
      rw [if_pos rfl]
      exact (hb rfl).2 F O σ H1 Q J q⟩
  | false =>
    obtain rfl := hs rfl
    exact .of (pe_and pe_tw (pe_tw (X := X))) ⟨ha.1, fun F O σ H Q I q => ha.2 F O σ H _ I fun v H1 J r => by
      cases r
      refine ⟨_, rfl, ?_⟩
      rw [if_neg Bool.false_ne_true]
      exact q _ H1 J (.bl _)⟩
theorem c_or (ha : CE X ρ a (.bl k) ρ1) (hb : k = false → CE X ρ1 (.BoolOp .Or (b :: rest) pos) (.bl l) ρ2) (hs : k = true → ρ2 = ρ1 := by intro _; rfl) : CE X ρ (.BoolOp .Or (a :: b :: rest) pos) (.bl (k || l)) ρ2 := by
  cases k with
  | false => exact .of (pe_or pe_tw pe_tw) ⟨(hb rfl).1.trans ha.1, fun F O σ H Q I q => ha.2 F O σ H _ I fun v H1 J r => by
      cases r
      refine ⟨_, rfl, ?_⟩
      rw [if_neg Bool.false_ne_true]
      exact (hb rfl).2 F O σ H1 Q J q⟩
  | true =>
    obtain rfl := hs rfl
    exact .of (pe_or pe_tw (pe_tw (X := X))) ⟨ha.1, fun F O σ H Q I q => ha.2 F O σ H _ I fun v H1 J r => by
      cases r
      refine ⟨_, rfl, ?_⟩
      rw [if_pos rfl]
      exact q _ H1 J (.bl _)⟩
theorem c_not (ha : CE X ρ a (.bl k) ρ1) : CE X ρ (.UnaryOp .Not a pos) (.bl (!k)) ρ1 := .of (pe_not pe_tw) ⟨ha.1, fun F O σ H Q I q => ha.2 F O σ H _ I fun v H1 J r => by
  cases r
  exact ⟨_, rfl, q _ H1 J (.bl _)⟩⟩
theorem c_if (hc : CT X ρ c k ρ1) (h1 : k = true → CE X ρ1 a d ρ2) (h2 : k = false → CE X ρ1 b d ρ2) : CE X ρ (.IfExp c a b pos) d ρ2 := by
  refine .of (pe_ifExp pt_tw pe_tw pe_tw) ?_
  cases k with
  | true => exact ⟨(h1 rfl).1.trans hc.1, fun F O σ H Q I q => hc.2 F O σ H _ I fun H1 J => by
      rw [if_pos rfl]
      exact (h1 rfl).2 F O σ H1 Q J q⟩
  | false => exact ⟨(h2 rfl).1.trans hc.1, fun F O σ H Q I q => hc.2 F O σ H _ I fun H1 J => by
      rw [if_neg Bool.false_ne_true]
      exact (h2 rfl).2 F O σ H1 Q J q⟩
/-- the same state behind both -/
theorem c_ite {x y : D} (hc : CT X ρ c k ρ1) (h1 : k = true → CE X ρ1 a x ρ1) (h2 : k = false → CE X ρ1 b y ρ1) : CE X ρ (.IfExp c a b pos) (if k then x else y) ρ1 :=
  c_if hc (fun h => by subst h; exact h1 rfl) (fun h => by subst h; exact h2 rfl)

/-! ### arguments, tuples, lists -/
theorem d_nil : CD X ρ [] [] ρ := .of pa_nil ed_nil
theorem d_cons {ds : List D} (h : CE X ρ e d ρ1) (hr : CD X ρ1 es ds ρ2) (hs : starEach (e :: es) X.env = (false, eval e X.env) :: starEach es X.env := by rfl) : CD X ρ (e :: es) (d :: ds) ρ2 := .of (pa_cons pe_tw pa_tw hs) (ed_cons h hr)
theorem c_tup {x1} {ds : List D} (h : CD X ρ es ds ρ1) (hl : ds.length ≤ sizeLine) : CE X ρ (.Tuple es x1 pos) (.tup ds) ρ1 := .of (pe_tup pa_tw) ⟨h.1, fun F O σ H Q I q => h.2 F O σ H _ I fun vs H1 J r =>
  ⟨by rw [r.length]; exact hl, fun p hp => q _ _ (J.new hp) (.tup (.of (J.newHid hp)) (r.mono (ex_new hp)))⟩⟩
theorem n_lst {ds : List D} (h : CD X ρ es ds ρ1) (hl : ds.length ≤ sizeLine) : CN X ρ (.List es pos) ds ρ1 := .of (pe_lst pa_tw) ⟨h.1, fun F O σ H Q I q => h.2 F O σ H _ I fun vs H1 J r =>
  ⟨by rw [r.length]; exact hl, fun p hp => q p vs H1 J hp r⟩⟩
end
end VL
end

section
set_option Elab.async false
set_option linter.all false
set_option maxRecDepth 100000
set_option maxHeartbeats 4000000
namespace VL
open PySem PySem.Spec PyProof.Rows L2

section
variable {X : Cx} {e a b c : Expr} {es : List Expr} {ρ ρ1 ρ2 ρ3 : Lo} {x y z d : D} {pos p : Pos} {i j : Int} {K : PySem.W.Frag} {H : Hp}

/-! ### subscripts, slices -/
theorem Reps.at {vs : List V} {ds : List D} (r : Reps K H vs ds) (h : atI ds i = some d) : ∃ v, atI vs i = some v ∧ Rep K H v d := by
  unfold atI at h ⊢
  rw [r.length]
  cases q : ixN ds.length i with
  | none => rw [q] at h; cases h
  | some k =>
    rw [q] at h
    exact r.get (show ds[k]? = some d from h)
def cutD (xs : List D) (lo hi : Option Int) : List D := (xs.drop (HT.sIx xs.length 0 lo)).take (HT.sIx xs.length xs.length hi - HT.sIx xs.length 0 lo)
theorem Reps.cut {vs : List V} {ds : List D} (r : Reps K H vs ds) (lo hi : Option Int) : Reps K H (cutV vs lo hi) (cutD ds lo hi) := by
  unfold cutV cutD
  rw [r.length]
  exact (r.drop _).take _
theorem c_sub_ {r : R2} (hr : IxR X r) (hd : OpD X.K r x y z) (ha : CE X ρ a x ρ1) (hb : CE X ρ1 b y ρ2) (hs : PlainIx b) : CE X ρ (.Subscript a b pos) z ρ2 := .of (pe_ix hr pe_tw pe_tw hs) (ev_op hd ha hb)
theorem c_ixT {ds : List D} (ha : CE X ρ a (.tup ds) ρ1) (hb : CE X ρ1 b (.int i) ρ2) (h : atI ds i = some d) (hs : PlainIx b := by exact fun _ _ => rfl) : CE X ρ (.Subscript a b pos) d ρ2 := c_sub_ ix_tup (fun F O ρ σ H v w Q I r1 r2 q => by
  cases r2
  cases r1 with
  | tup h1 rs =>
    obtain ⟨u, e1, ru⟩ := rs.at h
    exact ⟨_, _, _, u, rfl, rfl, hid_ex.t h1, e1, q _ _ I ru⟩) ha hb hs
theorem c_ixL {ds : List D} (ha : CE X ρ a (.lst ds) ρ1) (hb : CE X ρ1 b (.int i) ρ2) (h : atI ds i = some d) (hs : PlainIx b := by exact fun _ _ => rfl) : CE X ρ (.Subscript a b pos) d ρ2 := c_sub_ ix_list (fun F O ρ σ H v w Q I r1 r2 q => by
  cases r2
  cases r1 with
  | lst h1 rs =>
    obtain ⟨u, e1, ru⟩ := rs.at h
    exact ⟨_, _, _, u, rfl, rfl, .of (hid_ex _ _ h1), e1, q _ _ I ru⟩) ha hb hs
/-- a part of a slice -/
def EO (K : PySem.W.Frag) (t : TO) (ρ : Lo) (o : Option Int) (ρ' : Lo) : Prop := owns ρ' = owns ρ ∧
  ∀ F O σ H (Q : Option Int → Hp → Prop), SOk K F O ρ σ H → (∀ H', SOk K F O ρ' σ H' → Q o H') → t σ H Q
/-- a slice's parts: an optional int -/
structure CO (X : Cx) (ρ : Lo) (e : Option Expr) (o : Option Int) (ρ' : Lo) : Prop where
  ex : ∃ t, PO X e t ∧ EO X.K t ρ o ρ'
theorem o_none : CO X ρ none none ρ := ⟨_, po_none, rfl, fun F O σ H Q I q => q H I⟩
theorem o_some (h : CE X ρ e (.int i) ρ1) : CO X ρ (some e) (some i) ρ1 := ⟨_, po_some pe_tw, h.1, fun F O σ H Q I q => h.2 F O σ H _ I fun v H1 J r => by
  cases r
  exact ⟨i, rfl, q _ J⟩⟩
theorem ev_sl {r : V → Option Int → Option Int → Hp → VK → Prop} {te : TE} {tl th : TO} {lo hi : Option Int} (h : EV X.K te ρ x ρ1) (h1 : EO X.K tl ρ1 lo ρ2) (h2 : EO X.K th ρ2 hi ρ3)
    (hd : ∀ F O σ H v (Q : VK), SOk X.K F O ρ3 σ H → Rep X.K (hid (UU O ρ3) H) v x → (∀ u H', SOk X.K F O ρ3 σ H' → Rep X.K (hid (UU O ρ3) H') u z → Q u H') → r v lo hi H Q) : EV X.K (tSl r te tl th) ρ z ρ3 :=
  ⟨h2.1.trans (h1.1.trans h.1), fun F O σ H Q I q => h.2 F O σ H _ I fun v H1 J rv => h1.2 _ O σ H1 _ J.sup fun H2 L => h2.2 _ O σ H2 _ L.sup fun H3 M =>
    hd F O σ H3 v Q ((M.weak L.le_sup L.od).weak J.le_sup J.od) (SOk.keep h2.1 M (SOk.keep h1.1 L rv)) q⟩
theorem en_sl {r : V → Option Int → Option Int → Hp → VK → Prop} {te : TE} {tl th : TO} {lo hi : Option Int} {ds : List D} (h : EV X.K te ρ x ρ1) (h1 : EO X.K tl ρ1 lo ρ2) (h2 : EO X.K th ρ2 hi ρ3)
    (hd : ∀ F O σ H v (Q : VK), SOk X.K F O ρ3 σ H → Rep X.K (hid (UU O ρ3) H) v x → (∀ p vs H1, SOk X.K F O ρ3 σ H1 → H1 p = none → Reps X.K (hid (UU O ρ3) H1) vs ds → Q (.ref p) (upd H1 p (.lst vs))) → r v lo hi H Q) : EN X.K (tSl r te tl th) ρ ds ρ3 :=
  ⟨h2.1.trans (h1.1.trans h.1), fun F O σ H Q I q => h.2 F O σ H _ I fun v H1 J rv => h1.2 _ O σ H1 _ J.sup fun H2 L => h2.2 _ O σ H2 _ L.sup fun H3 M =>
    hd F O σ H3 v Q ((M.weak L.le_sup L.od).weak J.le_sup J.od) (SOk.keep h2.1 M (SOk.keep h1.1 L rv)) q⟩
variable {lo hi : Option Expr} {l h : Option Int} {p2 : Pos}
theorem n_slL {ds : List D} (ha : CE X ρ a (.lst ds) ρ1) (hl : CO X ρ1 lo l ρ2) (hu : CO X ρ2 hi h ρ3) : CN X ρ (.Subscript a (.Slice lo hi none p2) pos) (cutD ds l h) ρ3 := by
  obtain ⟨tl, p1, e1⟩ := hl
  obtain ⟨th, p2, e2⟩ := hu
  refine .of (pe_slice sl_list pe_tw p1 p2) (en_sl ha e1 e2 fun F O σ H v Q I r q => ?_)
  cases r with
  | lst h1 rs => exact ⟨_, _, rfl, .of (hid_ex _ _ h1), fun p hp => q p _ H I hp (rs.cut _ _)⟩
theorem n_slF {ds : List D} (ha : CE X ρ a (.frl ds) ρ1) (hl : CO X ρ1 lo l ρ2) (hu : CO X ρ2 hi h ρ3) : CN X ρ (.Subscript a (.Slice lo hi none p2) pos) (cutD ds l h) ρ3 := by
  obtain ⟨tl, p1, e1⟩ := hl
  obtain ⟨th, p2, e2⟩ := hu
  refine .of (pe_slice sl_list pe_tw p1 p2) (en_sl ha e1 e2 fun F O σ H v Q I r q => ?_)
  cases r with
  | frl h1 rs => exact ⟨_, _, rfl, hid_ex.l h1, fun p hp => q p _ H I hp (rs.cut _ _)⟩
theorem cutV_whole {xs : List V} {lo hi : Option Int} (h : HT.sIx xs.length 0 lo = 0 ∧ HT.sIx xs.length xs.length hi = xs.length) : cutV xs lo hi = xs := by
  unfold cutV
  rw [h.1, h.2, List.drop_zero, Nat.sub_zero, List.take_length]
theorem c_slT {ds : List D} (ha : CE X ρ a (.tup ds) ρ1) (hl : CO X ρ1 lo l ρ2) (hu : CO X ρ2 hi h ρ3) : CE X ρ (.Subscript a (.Slice lo hi none p2) pos) (.tup (cutD ds l h)) ρ3 := by
  obtain ⟨tl, p1, e1⟩ := hl
  obtain ⟨th, p2, e2⟩ := hu
  refine .of (pe_slice sl_tupA pe_tw p1 p2) (ev_sl ha e1 e2 fun F O σ H v Q I r q => ?_)
  cases r with
  | @tup a' vs _ h1 rs =>
    refine ⟨_, _, rfl, hid_ex.t h1, fun hw => q _ H I (.tup h1 ?_), fun _ p hp => q _ _ (I.new hp) (.tup (.of (I.newHid hp)) ((rs.cut l h).mono (ex_new hp)))⟩
    have r2 := rs.cut l h
    rw [cutV_whole hw] at r2
    exact r2

/-! ### + and * of lists and tuples -/
theorem n_catL {xs ys : List D} (ha : CE X ρ a (.lst xs) ρ1) (hb : CE X ρ1 b (.lst ys) ρ2) (hl : xs.length + ys.length ≤ sizeLine) : CN X ρ (.BinOp a .Add b pos) (xs ++ ys) ρ2 := n_bin op_cat (fun F O ρ σ H v w Q I r1 r2 q => by
  cases r1 with
  | lst h1 s1 =>
    cases r2 with
    | lst h2 s2 => exact ⟨_, _, _, _, rfl, rfl, hid_ex _ _ h1, hid_ex _ _ h2, by rw [s1.length, s2.length]; exact hl, fun p hp => q p _ H I hp (s1.append s2)⟩) ha hb
theorem Reps.reps {vs : List V} {ds : List D} (r : Reps K H vs ds) : ∀ n : Nat, Reps K H (List.replicate n vs).flatten (List.replicate n ds).flatten
  | 0 => .nil
  | n + 1 => by
    rw [List.replicate_succ, List.replicate_succ, List.flatten_cons, List.flatten_cons]
    exact r.append (Reps.reps r n)
theorem n_repL {xs : List D} (ha : CE X ρ a (.lst xs) ρ1) (hb : CE X ρ1 b (.int i) ρ2) (hi : -(2 ^ 63) ≤ i ∧ i < 2 ^ 63) (hl : xs.length * i.toNat ≤ sizeLine) : CN X ρ (.BinOp a .Mult b pos) (List.replicate i.toNat xs).flatten ρ2 := n_bin op_rep (fun F O ρ σ H v w Q I r1 r2 q => by
  cases r2
  cases r1 with
  | lst h1 s1 => exact ⟨_, _, _, rfl, rfl, hid_ex _ _ h1, hi.1, hi.2, by rw [s1.length]; exact hl, fun p hp => q p _ H I hp (s1.reps _)⟩) ha hb
theorem c_catT {xs ys : List D} (ha : CE X ρ a (.tup xs) ρ1) (hb : CE X ρ1 b (.tup ys) ρ2) (hl : xs.length + ys.length ≤ sizeLine) : CE X ρ (.BinOp a .Add b pos) (.tup (xs ++ ys)) ρ2 := c_bin op_catA (fun F O ρ σ H v w Q I r1 r2 q => by
  cases r1 with
  | tup h1 s1 =>
    cases r2 with
    | tup h2 s2 =>
      refine ⟨_, _, _, _, rfl, rfl, hid_ex.t h1, hid_ex.t h2, by rw [s1.length, s2.length]; exact hl, fun e0 => ?_, fun _ e0 => ?_, fun _ _ p hp => q _ _ (I.new hp) (.tup (.of (I.newHid hp)) ((s1.append s2).mono (ex_new hp)))⟩
      · subst e0
        cases s1
        exact q _ H I (.tup h2 s2)
      · subst e0
        cases s2
        rw [List.append_nil] at q
        exact q _ H I (.tup h1 s1)) ha hb
theorem c_repT {xs : List D} (ha : CE X ρ a (.tup xs) ρ1) (hb : CE X ρ1 b (.int i) ρ2) (hn : xs ≠ []) (hi : 2 ≤ i ∧ i ≤ 1000) (hl : xs.length ≤ 1000) : CE X ρ (.BinOp a .Mult b pos) (.tup (List.replicate i.toNat xs).flatten) ρ2 := c_bin op_repT (fun F O ρ σ H v w Q I r1 r2 q => by
  cases r2
  cases r1 with
  | tup h1 s1 => exact ⟨_, _, _, rfl, rfl, hid_ex.t h1, (fun e0 => by subst e0; cases s1; exact hn rfl), hi.1, hi.2, by rw [s1.length]; exact hl, fun p hp => q _ _ (I.new hp) (.tup (.of (I.newHid hp)) ((s1.reps _).mono (ex_new hp)))⟩) ha hb

/-! ### built-ins -/
variable {x0 : Str} {bid T : String} {r : List V → Hp → VK → Prop} {ds : List D}
theorem c_blt (hc : CallR X (.builtin bid) r) (hd : CbD X.K r ds z) (hm : X.mg x0 = none) (hv : bootBuiltins x0 = some (.builtin bid)) (ha : CD X ρ (e :: es) ds ρ1) (hg : Gl X x0 := by rfl) (hn : x0 ≠ "__name__" := by decide) (hdb : (x0 == ("__debug__" : Str)) = false := by decide)
    (he : starEach (e :: es) X.env = (false, eval e X.env) :: starEach es X.env := by rfl) (hpl : (backTo pos (starEach es X.env)).any (·.1) = false := by rfl) : CE X ρ (.Call (.Name x0 p) (e :: es) [] pos) z ρ1 := .of (pe_callB hc hg hm hv pa_tw hn hdb he hpl) (ev_cb hd ha)
theorem c_btT (hc : CallR X (.type T) r) (hd : CbD X.K r ds z) (hm : X.mg x0 = none) (hv : bootBuiltins x0 = some (.type T)) (ha : CD X ρ (e :: es) ds ρ1) (hg : Gl X x0 := by rfl) (hn : x0 ≠ "__name__" := by decide) (hdb : (x0 == ("__debug__" : Str)) = false := by decide)
    (he : starEach (e :: es) X.env = (false, eval e X.env) :: starEach es X.env := by rfl) (hpl : (backTo pos (starEach es X.env)).any (·.1) = false := by rfl) : CE X ρ (.Call (.Name x0 p) (e :: es) [] pos) z ρ1 := .of (pe_callTy hc hg hm hv pa_tw hn hdb he hpl) (ev_cb hd ha)
theorem n_btT {zs : List D} (hc : CallR X (.type T) r) (hd : CbN X.K r ds zs) (hm : X.mg x0 = none) (hv : bootBuiltins x0 = some (.type T)) (ha : CD X ρ (e :: es) ds ρ1) (hg : Gl X x0 := by rfl) (hn : x0 ≠ "__name__" := by decide) (hdb : (x0 == ("__debug__" : Str)) = false := by decide)
    (he : starEach (e :: es) X.env = (false, eval e X.env) :: starEach es X.env := by rfl) (hpl : (backTo pos (starEach es X.env)).any (·.1) = false := by rfl) : CN X ρ (.Call (.Name x0 p) (e :: es) [] pos) zs ρ1 := .of (pe_callTy hc hg hm hv pa_tw hn hdb he hpl) (en_cb hd ha)
theorem n_blt {zs : List D} (hc : CallR X (.builtin bid) r) (hd : CbN X.K r ds zs) (hm : X.mg x0 = none) (hv : bootBuiltins x0 = some (.builtin bid)) (ha : CD X ρ (e :: es) ds ρ1) (hg : Gl X x0 := by rfl) (hn : x0 ≠ "__name__" := by decide) (hdb : (x0 == ("__debug__" : Str)) = false := by decide)
    (he : starEach (e :: es) X.env = (false, eval e X.env) :: starEach es X.env := by rfl) (hpl : (backTo pos (starEach es X.env)).any (·.1) = false := by rfl) : CN X ρ (.Call (.Name x0 p) (e :: es) [] pos) zs ρ1 := .of (pe_callB hc hg hm hv pa_tw hn hdb he hpl) (en_cb hd ha)
theorem one_of {vs : List V} (r : Reps K H vs [x]) : ∃ v, vs = [v] ∧ Rep K H v x := by
  cases r with
  | cons h t => cases t; exact ⟨_, rfl, h⟩
theorem two_of {vs : List V} (r : Reps K H vs [x, y]) : ∃ v w, vs = [v, w] ∧ Rep K H v x ∧ Rep K H w y := by
  cases r with
  | cons h t =>
    obtain ⟨w, rfl, h2⟩ := one_of t
    exact ⟨_, w, rfl, h, h2⟩
theorem c_lenL {ds : List D} (hm : X.mg "len" = none) (ha : CE X ρ a (.lst ds) ρ1) (hg : Gl X "len" := by rfl)
    (he : starEach [a] X.env = (false, eval a X.env) :: starEach [] X.env := by rfl) (hpl : (backTo pos (starEach [] X.env)).any (·.1) = false := by rfl) : CE X ρ (.Call (.Name "len" p) [a] [] pos) (.int (ds.length : Int)) ρ1 :=
  c_blt call_len_seq (fun F O ρ σ H vs Q I r q => by
    obtain ⟨v, rfl, ru⟩ := one_of r
    cases ru with
    | lst h1 s1 =>
      refine ⟨_, _, rfl, .inl (.of (hid_ex _ _ h1)), ?_⟩
      rw [s1.length]
      exact q _ _ I (.int _)) hm boot_len (d_cons ha d_nil he) hg (he := he) (hpl := hpl)
theorem c_lenF {ds : List D} (hm : X.mg "len" = none) (ha : CE X ρ a (.frl ds) ρ1) (hg : Gl X "len" := by rfl)
    (he : starEach [a] X.env = (false, eval a X.env) :: starEach [] X.env := by rfl) (hpl : (backTo pos (starEach [] X.env)).any (·.1) = false := by rfl) : CE X ρ (.Call (.Name "len" p) [a] [] pos) (.int (ds.length : Int)) ρ1 :=
  c_blt call_len_seq (fun F O ρ σ H vs Q I r q => by
    obtain ⟨v, rfl, ru⟩ := one_of r
    cases ru with
    | frl h1 s1 =>
      refine ⟨_, _, rfl, .inl (hid_ex.l h1), ?_⟩
      rw [s1.length]
      exact q _ _ I (.int _)) hm boot_len (d_cons ha d_nil he) hg (he := he) (hpl := hpl)
theorem c_lenT {ds : List D} (hm : X.mg "len" = none) (ha : CE X ρ a (.tup ds) ρ1) (hg : Gl X "len" := by rfl)
    (he : starEach [a] X.env = (false, eval a X.env) :: starEach [] X.env := by rfl) (hpl : (backTo pos (starEach [] X.env)).any (·.1) = false := by rfl) : CE X ρ (.Call (.Name "len" p) [a] [] pos) (.int (ds.length : Int)) ρ1 :=
  c_blt call_len_seq (fun F O ρ σ H vs Q I r q => by
    obtain ⟨v, rfl, ru⟩ := one_of r
    cases ru with
    | tup h1 s1 =>
      refine ⟨_, _, rfl, .inr (hid_ex.t h1), ?_⟩
      rw [s1.length]
      exact q _ _ I (.int _)) hm boot_len (d_cons ha d_nil he) hg (he := he) (hpl := hpl)
theorem c_abs (hm : X.mg "abs" = none) (ha : CE X ρ a (.int i) ρ1) (hg : Gl X "abs" := by rfl)
    (he : starEach [a] X.env = (false, eval a X.env) :: starEach [] X.env := by rfl) (hpl : (backTo pos (starEach [] X.env)).any (·.1) = false := by rfl) : CE X ρ (.Call (.Name "abs" p) [a] [] pos) (.int (if i < 0 then -i else i)) ρ1 :=
  c_blt call_abs (fun F O ρ σ H vs Q I r q => by
    obtain ⟨v, rfl, ru⟩ := one_of r
    cases ru
    exact ⟨_, rfl, q _ _ I (.int _)⟩) hm (by decide +kernel) (d_cons ha d_nil he) hg (he := he) (hpl := hpl)
theorem c_intI (hm : X.mg "int" = none) (ha : CE X ρ a (.int i) ρ1) (hg : Gl X "int" := by rfl)
    (he : starEach [a] X.env = (false, eval a X.env) :: starEach [] X.env := by rfl) (hpl : (backTo pos (starEach [] X.env)).any (·.1) = false := by rfl) : CE X ρ (.Call (.Name "int" p) [a] [] pos) (.int i) ρ1 :=
  c_btT call_int1 (fun F O ρ σ H vs Q I r q => by
    obtain ⟨v, rfl, ru⟩ := one_of r
    cases ru
    exact .inl ⟨_, rfl, q _ _ I (.int _)⟩) hm (by decide +kernel) (d_cons ha d_nil he) hg (he := he) (hpl := hpl)
theorem n_listL {ds : List D} (hm : X.mg "list" = none) (ha : CE X ρ a (.lst ds) ρ1) (hg : Gl X "list" := by rfl)
    (he : starEach [a] X.env = (false, eval a X.env) :: starEach [] X.env := by rfl) (hpl : (backTo pos (starEach [] X.env)).any (·.1) = false := by rfl) : CN X ρ (.Call (.Name "list" p) [a] [] pos) ds ρ1 :=
  n_btT call_list_of (fun F O ρ σ H vs Q I r q => by
    obtain ⟨v, rfl, ru⟩ := one_of r
    cases ru with
    | lst h1 s1 => exact ⟨_, _, rfl, .inl (.of (hid_ex _ _ h1)), fun l hl => q l _ H I hl s1⟩) hm (by decide +kernel) (d_cons ha d_nil he) hg (he := he) (hpl := hpl)
theorem n_listT {ds : List D} (hm : X.mg "list" = none) (ha : CE X ρ a (.tup ds) ρ1) (hg : Gl X "list" := by rfl)
    (he : starEach [a] X.env = (false, eval a X.env) :: starEach [] X.env := by rfl) (hpl : (backTo pos (starEach [] X.env)).any (·.1) = false := by rfl) : CN X ρ (.Call (.Name "list" p) [a] [] pos) ds ρ1 :=
  n_btT call_list_of (fun F O ρ σ H vs Q I r q => by
    obtain ⟨v, rfl, ru⟩ := one_of r
    cases ru with
    | tup h1 s1 => exact ⟨_, _, rfl, .inr (hid_ex.t h1), fun l hl => q l _ H I hl s1⟩) hm (by decide +kernel) (d_cons ha d_nil he) hg (he := he) (hpl := hpl)
theorem c_tupL {ds : List D} (hm : X.mg "tuple" = none) (ha : CE X ρ a (.lst ds) ρ1) (hg : Gl X "tuple" := by rfl)
    (he : starEach [a] X.env = (false, eval a X.env) :: starEach [] X.env := by rfl) (hpl : (backTo pos (starEach [] X.env)).any (·.1) = false := by rfl) : CE X ρ (.Call (.Name "tuple" p) [a] [] pos) (.tup ds) ρ1 :=
  c_btT call_tuple_of (fun F O ρ σ H vs Q I r q => by
    obtain ⟨v, rfl, ru⟩ := one_of r
    cases ru with
    | lst h1 s1 => exact ⟨_, _, rfl, .inl ⟨.of (hid_ex _ _ h1), fun l hl => q _ _ (I.new hl) (.tup (.of (I.newHid hl)) (s1.mono (ex_new hl)))⟩⟩) hm (by decide +kernel) (d_cons ha d_nil he) hg (he := he) (hpl := hpl)
theorem c_tupT {ds : List D} (hm : X.mg "tuple" = none) (ha : CE X ρ a (.tup ds) ρ1) (hg : Gl X "tuple" := by rfl)
    (he : starEach [a] X.env = (false, eval a X.env) :: starEach [] X.env := by rfl) (hpl : (backTo pos (starEach [] X.env)).any (·.1) = false := by rfl) : CE X ρ (.Call (.Name "tuple" p) [a] [] pos) (.tup ds) ρ1 :=
  c_btT call_tuple_of (fun F O ρ σ H vs Q I r q => by
    obtain ⟨v, rfl, ru⟩ := one_of r
    cases ru with
    | tup h1 s1 => exact ⟨_, _, rfl, .inr ⟨hid_ex.t h1, q _ _ I (.tup h1 s1)⟩⟩) hm (by decide +kernel) (d_cons ha d_nil he) hg (he := he) (hpl := hpl)
theorem c_sumL {ns : List Int} (hc : X.calm = true) (hm : X.mg "sum" = none) (ha : CE X ρ a (.lst (ns.map D.int)) ρ1) (hg : Gl X "sum" := by rfl)
    (he : starEach [a] X.env = (false, eval a X.env) :: starEach [] X.env := by rfl) (hpl : (backTo pos (starEach [] X.env)).any (·.1) = false := by rfl) : CE X ρ (.Call (.Name "sum" p) [a] [] pos) (.int ns.sum) ρ1 :=
  c_blt (cr_sum hc) (fun F O ρ σ H vs Q I r q => by
    obtain ⟨v, rfl, ru⟩ := one_of r
    cases ru with
    | lst h1 s1 =>
      rw [s1.ints] at h1
      exact ⟨_, _, rfl, .of (hid_ex _ _ h1), q _ _ I (.int _)⟩) hm (by decide +kernel) (d_cons ha d_nil he) hg (he := he) (hpl := hpl)
theorem c_allL {bs : List Bool} (hc : X.calm = true) (hm : X.mg "all" = none) (ha : CE X ρ a (.lst (bs.map D.bl)) ρ1) (hg : Gl X "all" := by rfl)
    (he : starEach [a] X.env = (false, eval a X.env) :: starEach [] X.env := by rfl) (hpl : (backTo pos (starEach [] X.env)).any (·.1) = false := by rfl) : CE X ρ (.Call (.Name "all" p) [a] [] pos) (.bl (bs.all id)) ρ1 :=
  c_blt (cr_all hc) (fun F O ρ σ H vs Q I r q => by
    obtain ⟨v, rfl, ru⟩ := one_of r
    cases ru with
    | lst h1 s1 =>
      rw [s1.bls] at h1
      exact ⟨_, _, rfl, .of (hid_ex _ _ h1), q _ _ I (.bl _)⟩) hm (by decide +kernel) (d_cons ha d_nil he) hg (he := he) (hpl := hpl)
theorem c_anyL {bs : List Bool} (hc : X.calm = true) (hm : X.mg "any" = none) (ha : CE X ρ a (.lst (bs.map D.bl)) ρ1) (hg : Gl X "any" := by rfl)
    (he : starEach [a] X.env = (false, eval a X.env) :: starEach [] X.env := by rfl) (hpl : (backTo pos (starEach [] X.env)).any (·.1) = false := by rfl) : CE X ρ (.Call (.Name "any" p) [a] [] pos) (.bl (bs.any id)) ρ1 :=
  c_blt (cr_any hc) (fun F O ρ σ H vs Q I r q => by
    obtain ⟨v, rfl, ru⟩ := one_of r
    cases ru with
    | lst h1 s1 =>
      rw [s1.bls] at h1
      exact ⟨_, _, rfl, .of (hid_ex _ _ h1), q _ _ I (.bl _)⟩) hm (by decide +kernel) (d_cons ha d_nil he) hg (he := he) (hpl := hpl)
end

/-! ### an own list read in passing -/
mutual
/-- no list, dict, instance within -/
def immut : D → Bool
  | .tup l => immutL l
  | .lst _ => false
  | .frl _ => false
  | .dic _ => false
  | .ins _ _ => false
  | .exc _ _ _ => false
  | .adr _ => true
  | _ => true
def immutL : List D → Bool
  | [] => true
  | d :: ds => immut d && immutL ds
end
section
variable {X : Cx} {e : Expr} {ρ ρ1 : Lo} {d : D} {K : PySem.W.Frag} {H : Hp} {F : Hp} {O : Addr → Prop} {σ : L2.St} {i : Nat} {p : Addr} {ds : List D}
theorem immutL_ints : ∀ ns : List Int, immutL (ns.map D.int) = true
  | [] => rfl
  | n :: ns => by rw [List.map_cons]; unfold immutL; rw [immutL_ints ns]; rfl
theorem immutL_bls : ∀ ns : List Bool, immutL (ns.map D.bl) = true
  | [] => rfl
  | n :: ns => by rw [List.map_cons]; unfold immutL; rw [immutL_bls ns]; rfl
mutual
theorem Rep.hide {U U' : Addr → Prop} (h : ∀ a, ¬ U a → U' a → ∃ vs, H a = some (.lst vs)) : ∀ {v : V} {d : D}, immut d = true → Rep K (hid U H) v d → Rep K (hid U' H) v d
  | _, _, _, .non => .non
  | _, _, _, .bl b => .bl b
  | _, _, _, .int i => .int i
  | _, _, _, .str x => .str x
  | _, _, _, .ty n => .ty n
  | _, _, _, .adr a => .adr a
  | _, _, m, .tup q r => by
    refine .tup ?_ (Reps.hide h m r)
    rcases q with q | q
    · refine .inl ?_
      rcases q with q | ⟨o, q⟩
      · obtain ⟨n, q⟩ := of_hid q
        refine .inl (hid_of (fun z => ?_) q)
        obtain ⟨vs, e⟩ := h _ n z
        rw [e] at q
        cases q
      · obtain ⟨n, q⟩ := of_hid q
        refine .inr ⟨o, hid_of (fun z => ?_) q⟩
        obtain ⟨vs, e⟩ := h _ n z
        rw [e] at q
        cases q
    · exact .inr q
  | _, _, m, .lst q r => nomatch m
  | _, _, m, .frl q r => nomatch m
  | _, _, m, .dic q r => nomatch m
  | _, _, m, .ins q r => nomatch m
  | _, _, m, .exc q r => nomatch m
theorem Reps.hide {U U' : Addr → Prop} (h : ∀ a, ¬ U a → U' a → ∃ vs, H a = some (.lst vs)) : ∀ {v : List V} {d : List D}, immutL d = true → Reps K (hid U H) v d → Reps K (hid U' H) v d
  | _, _, _, .nil => .nil
  | _, _, m, .cons q r => by
    unfold immutL at m
    rw [Bool.and_eq_true] at m
    exact .cons (Rep.hide h m.1 q) (Reps.hide h m.2 r)
end
theorem owns_set_dat (hi : ρ[i]? = some (.mut p ds)) (a : Addr) : owns (ρ.set i (.dat d)) a → owns ρ a := fun ⟨es, h⟩ => by
  rcases List.mem_or_eq_of_mem_set h with h | h
  · exact ⟨es, h⟩
  · cases h
/-- the own list of slot i let go: it is a datum from here on -/
theorem SOk.freeze (I : SOk K F O ρ σ H) (hi : ρ[i]? = some (.mut p ds)) : SOk K F O (ρ.set i (.dat (.lst ds))) σ H := by
  have hl : i < ρ.length := (List.getElem?_eq_some_iff.mp hi).1
  have nown : ¬ owns (ρ.set i (.dat (.lst ds))) p := fun ⟨es, h⟩ => by
    obtain ⟨k, hk⟩ := List.getElem?_of_mem h
    by_cases e : i = k
    · subst e
      rw [List.getElem?_set_self hl] at hk
      cases hk
    · rw [List.getElem?_set_ne e] at hk
      exact e (I.nd i k p ds es hi hk)
  have sub : ∀ a, UU O (ρ.set i (.dat (.lst ds))) a → UU O ρ a := fun a z => z.elim .inl fun z => .inr (owns_set_dat hi a z)
  have ex : Ex (hid (UU O ρ) H) (hid (UU O (ρ.set i (.dat (.lst ds)))) H) := ex_hid fun a o _ n h => ⟨fun z => n (sub a z), h⟩
  have nO : ¬ O p := I.nO ⟨ds, List.mem_of_getElem? hi⟩
  refine ⟨by rw [List.length_set]; exact I.len, fun k d hk => ?_, fun k q es hk => ?_, fun k l q es es' hk hl' => ?_, I.fr, I.od, I.tb, I.ft⟩
  · by_cases e : i = k
    · subst e
      rw [List.getElem?_set_self hl] at hk
      cases hk
      obtain ⟨h1, _, vs, h2, h3⟩ := I.mt i p ds hi
      exact ⟨.ref p, h1, .lst (hid_of (fun z => z.elim nO nown) h2) (h3.mono ex)⟩
    · rw [List.getElem?_set_ne e] at hk
      obtain ⟨v, h1, h2⟩ := I.dat k d hk
      exact ⟨v, h1, h2.mono ex⟩
  · by_cases e : i = k
    · subst e
      rw [List.getElem?_set_self hl] at hk
      cases hk
    · rw [List.getElem?_set_ne e] at hk
      obtain ⟨h1, h2, vs, h3, h4⟩ := I.mt k q es hk
      exact ⟨h1, h2, vs, h3, h4.mono ex⟩
  · by_cases e : i = k
    · subst e
      rw [List.getElem?_set_self hl] at hk
      cases hk
    · by_cases e' : i = l
      · subst e'
        rw [List.getElem?_set_self hl] at hl'
        cases hl'
      · rw [List.getElem?_set_ne e] at hk
        rw [List.getElem?_set_ne e'] at hl'
        exact I.nd k l q es es' hk hl'
end
end VL
end

section
set_option Elab.async false
set_option linter.all false
set_option maxRecDepth 100000
set_option maxHeartbeats 4000000
namespace VL
open PySem PySem.Spec PyProof.Rows L2

/-! ### an own list read in passing -/
def frz : Lo → Lo := List.map fun
  | .mut _ ds => .dat (.lst ds)
  | s => s
section
variable {X : Cx} {e : Expr} {ρ ρ1 ρ2 : Lo} {d : D} {K : PySem.W.Frag} {H H' : Hp} {F : Hp} {O : Addr → Prop} {σ : L2.St} {i : Nat} {p : Addr} {ds : List D}
theorem frz_get {k : Nat} {s : Sl} (h : (frz ρ)[k]? = some s) : (∃ p ds, ρ[k]? = some (.mut p ds) ∧ s = .dat (.lst ds)) ∨ (ρ[k]? = some s ∧ ∀ p ds, s ≠ .mut p ds) := by
  unfold frz at h
  rw [List.getElem?_map] at h
  cases q : ρ[k]? with
  | none => rw [q] at h; cases h
  | some t =>
    rw [q] at h
    cases t with
    | un => cases h; exact .inr ⟨rfl, fun _ _ z => nomatch z⟩
    | dat d => cases h; exact .inr ⟨rfl, fun _ _ z => nomatch z⟩
    | «mut» p ds => cases h; exact .inl ⟨p, ds, rfl, rfl⟩
theorem frz_owns {a : Addr} : ¬ owns (frz ρ) a := fun ⟨ds, h⟩ => by
  obtain ⟨k, hk⟩ := List.getElem?_of_mem h
  rcases frz_get hk with ⟨p, es, _, z⟩ | ⟨_, z⟩
  · cases z
  · exact z _ _ rfl
theorem SOk.ext (I : SOk K F O ρ σ H) (e : ExN H H') (tb : TB H') : SOk K F O ρ σ H' := by
  have exh : Ex (hid (UU O ρ) H) (hid (UU O ρ) H') := ex_hid fun a u t n h => ⟨n, e a u t h⟩
  refine ⟨I.len, fun i d h => ?_, fun i q ds h => ?_, I.nd, fun a o h => e a o (I.ft a o h) (I.fr a o h), I.od, tb, I.ft⟩
  · obtain ⟨v, h1, h2⟩ := I.dat i d h
    exact ⟨v, h1, h2.mono exh⟩
  · obtain ⟨h1, h2, vs, h3, h4⟩ := I.mt i q ds h
    exact ⟨h1, h2, vs, e _ _ inferInstance h3, h4.mono exh⟩
theorem SOk.frzAll (I : SOk K F O ρ σ H) : SOk K F O (frz ρ) σ H := by
  have ex : Ex (hid (UU O ρ) H) (hid (UU O (frz ρ)) H) := ex_hid fun a o _ n h => ⟨fun z => z.elim (fun z => n (.inl z)) frz_owns, h⟩
  refine ⟨by unfold frz; rw [List.length_map]; exact I.len, fun k d hk => ?_, fun k q es hk => ?_, fun k l q es es' hk hl' => ?_, I.fr, I.od, I.tb, I.ft⟩
  · rcases frz_get hk with ⟨p, ds, h1, h2⟩ | ⟨h1, _⟩
    · cases h2
      obtain ⟨q1, _, vs, q2, q3⟩ := I.mt k p ds h1
      exact ⟨.ref p, q1, .lst (hid_of (fun z => z.elim (I.nO ⟨ds, List.mem_of_getElem? h1⟩) frz_owns) q2) (q3.mono ex)⟩
    · obtain ⟨v, q1, q2⟩ := I.dat k d h1
      exact ⟨v, q1, q2.mono ex⟩
  · exact absurd ⟨es, List.mem_of_getElem? hk⟩ frz_owns
  · exact absurd ⟨es, List.mem_of_getElem? hk⟩ frz_owns
theorem Ex.frzSup (J : SOk K (VL.sup (frz ρ) H) O ρ2 σ H') : ExN H H' := fun a o _ h => J.fr a o (hid_of frz_owns h)
theorem c_bor (him : immut d = true) (h : CE X (frz ρ) e d (frz ρ)) : CE X ρ e d ρ := ⟨rfl, fun F O σ H Q I q => h.2 _ O σ H Q I.frzAll.sup fun v H' J r => by
  have e1 := Ex.frzSup J
  have I' := I.ext e1 J.tb
  exact q v H' I' (Rep.hide (fun a n z => by
    rcases z with z | z
    · exact absurd (.inl z) n
    · exact I'.ownH z) him r)⟩
theorem n_bor (him : immutL ds = true) (h : CN X (frz ρ) e ds (frz ρ)) : CN X ρ e ds ρ := ⟨rfl, fun F O σ H Q I q => h.2 _ O σ H Q I.frzAll.sup fun p vs H1 J hp r => by
  have e1 := Ex.frzSup J
  have I' := I.ext e1 J.tb
  exact q p vs H1 I' hp (Reps.hide (fun a n z => by
    rcases z with z | z
    · exact absurd (.inl z) n
    · exact I'.ownH z) him r)⟩
theorem t_bor {k : Bool} (h : CT X (frz ρ) e k (frz ρ)) : CT X ρ e k ρ := ⟨rfl, fun F O σ H Q I q => h.2 _ O σ H Q I.frzAll.sup fun H' J => q H' (I.ext (Ex.frzSup J) J.tb)⟩

/-! ### defs: what they promise -/
structure Er where
  C : Addr
  fs : List (Str × D)
def ErRep (K : PySem.W.Frag) (H : Hp) (cls : Value) (dd : Option Addr) (e : Er) : Prop :=
  cls = .ref e.C ∧ ((e.fs = [] ∧ dd = none) ∨ ∃ a fvs, dd = some a ∧ H a = some (.xd fvs) ∧ RepF K H fvs e.fs)
abbrev Res := Except Er D
abbrev Spec := Lo → (Res → Lo → Prop) → Prop
/-- what a def hands back, and what it leaves -/
def Post (K : PySem.W.Frag) (F : Hp) (O : Addr → Prop) (vs : List V) (ρ : Lo) (Q : VK) (E : XK) (r : Res) (ρ' : Lo) : Prop := owns ρ' = owns ρ → ∀ H', SOk K F O ρ' (vs.map some) H' →
  match r with
  | .ok d => ∀ v, Rep K (hid (UU O ρ') H') v d → Q v H'
  | .error e => ∀ cls dd, ErRep K (hid (UU O ρ') H') cls dd e → E cls dd H'
def spV (K : PySem.W.Frag) (S : Spec) : Sp := fun vs H Q E => ∃ O ρ, SOk K (VL.sup ρ H) O ρ (vs.map some) H ∧ S ρ (Post K (VL.sup ρ H) O vs ρ Q E)
structure FnV (P : Program) (w : World) (K : PySem.W.Frag) (mg : Str → Option Value) (base : Heap) (k : Nat) (x : Str) (S : Spec) : Prop where
  mono : ∀ ρ (R R' : Res → Lo → Prop), (∀ r ρ', R r ρ' → R' r ρ') → S ρ R → S ρ R'
  ex : ∃ f fd ps, FnOk P w K mg base (L2N.CX P w) k f fd ps (spV K S) ∧ mg x = some (.ref f) ∧ PySem.W.keepIn K (.ref f) = true ∧ Binds K fd ps []
theorem FnV.up {P : Program} {w : World} {mg : Str → Option Value} {base : Heap} {j k : Nat} {x : Str} {S : Spec} (F : FnV P w K mg base j x S) (h : j ≤ k) : FnV P w K mg base k x S :=
  ⟨F.mono, let ⟨f, fd, ps, a, b⟩ := F.ex; ⟨f, fd, ps, a.mono h, b⟩⟩
/-- data to a result, nothing changed -/
def detS (A : List D → Res → Prop) : Spec := fun ρ R => ∃ ds r, ρ = ds.map .dat ∧ A ds r ∧ R r ρ
theorem detS_mono {A : List D → Res → Prop} : ∀ ρ (R R' : Res → Lo → Prop), (∀ r ρ', R r ρ' → R' r ρ') → detS A ρ R → detS A ρ R' := fun _ _ _ h ⟨ds, r, e, a, q⟩ => ⟨ds, r, e, a, h _ _ q⟩
theorem owns_dats {ds : List D} {a : Addr} : ¬ owns (ds.map .dat) a := fun ⟨es, h⟩ => by
  obtain ⟨d, _, z⟩ := List.mem_map.mp h
  cases z
theorem hid_congr {U U' : Addr → Prop} (h : ∀ a, U a ↔ U' a) : hid U H = hid U' H := by
  have e : U = U' := funext fun a => propext (h a)
  rw [e]
theorem args_ok {vs : List V} {U : Addr → Prop} (r : Reps K (hid U H) vs ds) (od : ∀ a, U a → ∃ o, H a = some o ∧ NT o) (tb : TB H) : SOk K (VL.sup (ds.map .dat) H) U (ds.map .dat) (vs.map some) H := by
  have eu : ∀ a, U a ↔ UU U (ds.map .dat) a := fun a => ⟨.inl, fun z => z.elim id fun z => absurd z owns_dats⟩
  refine ⟨by rw [List.length_map, List.length_map, r.length], fun i d h => ?_, fun i p es h => ?_, fun i j p es es' h => ?_, hid_ex, fun a o => ?_, tb, fun _ _ h => nt_hid h⟩
  · rw [List.getElem?_map] at h
    cases q : ds[i]? with
    | none => rw [q] at h; cases h
    | some d' =>
      rw [q] at h
      cases h
      obtain ⟨v, e1, e2⟩ := r.get q
      refine ⟨v, by rw [List.getElem?_map, e1]; rfl, ?_⟩
      rw [← hid_congr eu]
      exact e2
  · exact absurd ⟨es, List.mem_of_getElem? h⟩ owns_dats
  · exact absurd ⟨es, List.mem_of_getElem? h⟩ owns_dats
  · obtain ⟨u, e, t⟩ := od a o
    exact ⟨u, hid_of owns_dats e⟩
theorem ex_dats {ds : List D} (J : SOk K (VL.sup (ds.map .dat) H) O ρ2 σ H') : ExN H H' := fun a o _ h => J.fr a o (hid_of owns_dats h)
theorem SOk.odU (I : SOk K F O ρ σ H) : ∀ a, UU O ρ a → ∃ o, H a = some o ∧ NT o := fun a z => by
  rcases z with z | z
  · obtain ⟨u, e⟩ := I.od a z
    exact ⟨u, I.fr a u e, I.ft a u e⟩
  · obtain ⟨vs, e⟩ := I.ownH z
    exact ⟨_, e, inferInstance⟩
section
variable {k : Nat} {x : Str} {S : Spec} {p pos : Pos} {es : List Expr}
/-- f(e, ..) on data, nothing raised -/
theorem c_call (Fn : FnV X.prog X.w X.K X.mg X.base k x S) (hr : Room k X.A) (ha : CD X ρ (e :: es) ds ρ1) (hS : ∀ R : Res → Lo → Prop, R (.ok d) (ds.map .dat) → S (ds.map .dat) R) (hg : Gl X x := by rfl) (hdb : (x == ("__debug__" : Str)) = false := by decide)
    (he : starEach (e :: es) X.env = (false, eval e X.env) :: starEach es X.env := by rfl) (hpl : (backTo pos (starEach es X.env)).any (·.1) = false := by rfl) : CE X ρ (.Call (.Name x p) (e :: es) [] pos) d ρ1 := by
  obtain ⟨f, fd, ps, hF, hm, hk, hb⟩ := Fn.ex
  refine .of (pe_call hF hr hg hm hk hb .nil passLN pa_tw hdb he hpl) ⟨ha.1, fun F O σ H Q I q => ha.2 F O σ H _ I fun vs H1 J r => ?_⟩
  refine ⟨UU O ρ1, ds.map .dat, ?_, ?_⟩
  · rw [List.append_nil]
    exact args_ok r J.odU J.tb
  · refine hS _ fun _ H' L v rv => q v H' (J.ext (ex_dats L) L.tb) ?_
    rw [hid_congr (U := UU O ρ1) (U' := UU (UU O ρ1) (ds.map .dat)) fun a => ⟨.inl, fun z => z.elim id fun z => absurd z owns_dats⟩]
    exact rv
end
end

/-! ### targets -/
inductive Tg where
  | nm (i : Nat) | tp (l : List Tg)
mutual
def gOf (K : PySem.W.Frag) : Tg → TG
  | .nm i => gName i
  | .tp l => gTup K l.length (gsOf K l)
def gsOf (K : PySem.W.Frag) : List Tg → TGs
  | [] => gNil
  | t :: l => gCons (gOf K t) (gsOf K l)
end
mutual
inductive Bind : Tg → D → Lo → Lo → Prop
  | nm {i : Nat} {d : D} {ρ : Lo} : Bind (.nm i) d ρ (ρ.set i (.dat d))
  | tp {l : List Tg} {ds : List D} {ρ ρ' : Lo} : BindL l ds ρ ρ' → Bind (.tp l) (.tup ds) ρ ρ'
inductive BindL : List Tg → List D → Lo → Lo → Prop
  | nil {ρ : Lo} : BindL [] [] ρ ρ
  | cons {t : Tg} {l : List Tg} {d : D} {ds : List D} {ρ ρ1 ρ2 : Lo} : Bind t d ρ ρ1 → BindL l ds ρ1 ρ2 → BindL (t :: l) (d :: ds) ρ ρ2
end
mutual
def Tg.slots : Tg → List Nat
  | .nm i => [i]
  | .tp l => slotsL l
def slotsL : List Tg → List Nat
  | [] => []
  | t :: l => t.slots ++ slotsL l
end
mutual
theorem Bind.len2 : ∀ {T : Tg} {d : D} {ρ ρ' : Lo}, Bind T d ρ ρ' → ρ'.length = ρ.length
  | _, _, _, _, .nm => List.length_set
  | _, _, _, _, .tp b => b.len2
theorem BindL.len2 : ∀ {l : List Tg} {ds : List D} {ρ ρ' : Lo}, BindL l ds ρ ρ' → ρ'.length = ρ.length
  | _, _, _, _, .nil => rfl
  | _, _, _, _, .cons b bl => bl.len2.trans b.len2
end
section
variable {X : Cx} {e : Expr} {ρ ρ1 ρ2 : Lo} {d : D} {K : PySem.W.Frag} {H H' : Hp} {F : Hp} {O : Addr → Prop} {σ : L2.St} {i : Nat} {p : Addr} {ds : List D}
theorem owns_set {a : Addr} {s : Sl} (hs : ∀ p ds, s ≠ .mut p ds) : owns (ρ.set i s) a → owns ρ a := fun ⟨es, h⟩ => by
  rcases List.mem_or_eq_of_mem_set h with h | h
  · exact ⟨es, h⟩
  · exact absurd h.symm (hs _ _)
theorem UU_set {a : Addr} {s : Sl} (hs : ∀ p ds, s ≠ .mut p ds) : UU O (ρ.set i s) a → UU O ρ a := fun z => z.elim .inl fun z => .inr (owns_set hs z)
theorem datNe : ∀ (p : Addr) (ds : List D), Sl.dat d ≠ .mut p ds := fun p ds z => by cases z
/-- a datum stored -/
theorem SOk.set {v : V} (I : SOk K F O ρ σ H) (r : Rep K (hid (UU O ρ) H) v d) : SOk K F O (ρ.set i (.dat d)) (σ.set i (some v)) H := by
  have ex : Ex (hid (UU O ρ) H) (hid (UU O (ρ.set i (.dat d))) H) := ex_hid fun a o _ n h => ⟨fun z => n (UU_set datNe z), h⟩
  refine ⟨by rw [List.length_set, List.length_set]; exact I.len, fun k d' hk => ?_, fun k q es hk => ?_, fun k l q es es' hk hl => ?_, I.fr, I.od, I.tb, I.ft⟩
  · by_cases e : i = k
    · subst e
      have hl : i < ρ.length := by
        have := (List.getElem?_eq_some_iff.mp hk).1
        rw [List.length_set] at this
        exact this
      rw [List.getElem?_set_self hl] at hk
      cases hk
      exact ⟨v, List.getElem?_set_self (by rw [I.len]; exact hl), r.mono ex⟩
    · rw [List.getElem?_set_ne e] at hk
      obtain ⟨u, h1, h2⟩ := I.dat k d' hk
      exact ⟨u, by rw [List.getElem?_set_ne e]; exact h1, h2.mono ex⟩
  · by_cases e : i = k
    · subst e
      have hl : i < ρ.length := by
        have := (List.getElem?_eq_some_iff.mp hk).1
        rw [List.length_set] at this
        exact this
      rw [List.getElem?_set_self hl] at hk
      cases hk
    · rw [List.getElem?_set_ne e] at hk
      obtain ⟨h1, h2, vs, h3, h4⟩ := I.mt k q es hk
      exact ⟨by rw [List.getElem?_set_ne e]; exact h1, h2, vs, h3, h4.mono ex⟩
  · have ne : ∀ {k : Nat} {q : Addr} {es : List D}, (ρ.set i (.dat d))[k]? = some (.mut q es) → i ≠ k := fun {k q es} hk e => by
      subst e
      have hl : i < ρ.length := by
        have := (List.getElem?_eq_some_iff.mp hk).1
        rw [List.length_set] at this
        exact this
      rw [List.getElem?_set_self hl] at hk
      cases hk
    have n1 := ne hk
    have n2 := ne hl
    rw [List.getElem?_set_ne n1] at hk
    rw [List.getElem?_set_ne n2] at hl
    exact I.nd k l q es es' hk hl
mutual
theorem Bind.run : ∀ {T : Tg} {d : D} {ρ ρ' : Lo} {v : V} {σ : L2.St} {Q : L2.St → Hp → Prop}, Bind T d ρ ρ' → SOk K F O ρ σ H → Rep K (hid (UU O ρ) H) v d →
    (∀ σ', SOk K F O ρ' σ' H → (∀ k, k ∉ T.slots → σ'[k]? = σ[k]?) → (∀ (v : V) (d : D), Rep K (hid (UU O ρ) H) v d → Rep K (hid (UU O ρ') H) v d) → Q σ' H) → gOf K T v σ H Q
  | _, _, _, _, v, σ, Q, .nm, I, r, q => q _ (I.set r) (fun k hk => List.getElem?_set_ne fun e => hk (by rw [e]; exact List.mem_cons_self)) fun w e re => re.mono (ex_hid fun a o _ n h => ⟨fun z => n (UU_set datNe z), h⟩)
  | _, _, _, _, _, σ, Q, .tp b, I, .tup h1 rs, q => ⟨_, _, rfl, hid_ex.t h1, by rw [rs.length]; exact (BindL.len b).symm, BindL.run b I rs fun σ' J hk hr => q σ' J hk hr⟩
theorem BindL.run : ∀ {l : List Tg} {ds : List D} {ρ ρ' : Lo} {vs : List V} {σ : L2.St} {Q : L2.St → Hp → Prop}, BindL l ds ρ ρ' → SOk K F O ρ σ H → Reps K (hid (UU O ρ) H) vs ds →
    (∀ σ', SOk K F O ρ' σ' H → (∀ k, k ∉ slotsL l → σ'[k]? = σ[k]?) → (∀ (v : V) (d : D), Rep K (hid (UU O ρ) H) v d → Rep K (hid (UU O ρ') H) v d) → Q σ' H) → gsOf K l vs σ H Q
  | _, _, _, _, _, σ, Q, .nil, I, .nil, q => ⟨rfl, q σ I (fun _ _ => rfl) fun _ _ r => r⟩
  | _, _, _, _, _, σ, Q, .cons b bl, I, .cons r rs, q => ⟨_, _, rfl, Bind.run b I r fun σ1 J hk hr => BindL.run bl J (repsMap hr rs) fun σ2 L hk2 hr2 => q σ2 L (fun k hn => (hk2 k fun z => hn (List.mem_append_right _ z)).trans (hk k fun z => hn (List.mem_append_left _ z))) fun w e re => hr2 w e (hr w e re)⟩
theorem BindL.len : ∀ {l : List Tg} {ds : List D} {ρ ρ' : Lo}, BindL l ds ρ ρ' → l.length = ds.length
  | _, _, _, _, .nil => rfl
  | _, _, _, _, .cons _ bl => by rw [List.length_cons, List.length_cons, bl.len]
theorem repsMap {H1 H2 : Hp} (h : ∀ (v : V) (d : D), Rep K H1 v d → Rep K H2 v d) : ∀ {vs : List V} {ds : List D}, Reps K H1 vs ds → Reps K H2 vs ds
  | _, _, .nil => .nil
  | _, _, .cons r rs => .cons (h _ _ r) (repsMap h rs)
end
end
end VL
end

section
set_option Elab.async false
set_option linter.all false
set_option maxRecDepth 100000
set_option maxHeartbeats 4000000
namespace VL
open PySem PySem.Spec PyProof.Rows L2

/-! ### statements -/
structure WE where
  nx : Lo → Prop
  rt : D → Lo → Prop
  bk : Lo → Prop := fun _ => False
  ct : Lo → Prop := fun _ => False
  er : Er → Lo → Prop := fun _ _ => False
structure Real (X : Cx) (F : Hp) (O : Addr → Prop) (W : WE) (D : Ends) : Prop where
  nx : ∀ ρ σ H, W.nx ρ → SOk X.K F O ρ σ H → D.nx σ H
  rt : ∀ d ρ σ H v, W.rt d ρ → SOk X.K F O ρ σ H → Rep X.K (hid (UU O ρ) H) v d → D.rt v H
  bk : ∀ ρ σ H, W.bk ρ → SOk X.K F O ρ σ H → D.bk σ H
  ct : ∀ ρ σ H, W.ct ρ → SOk X.K F O ρ σ H → D.ct σ H
  er : ∃ Wx : WX, L2N.Takes X Wx ∧ ∀ e ρ σ H cls dd, W.er e ρ → SOk X.K F O ρ σ H → ErRep X.K (hid (UU O ρ) H) cls dd e → Wx cls dd σ H
/-- the context of a body -/
structure Bd (X : Cx) : Prop where
  calm : X.calm = true
  nd : X.N.Nodup
  ps : PassesOwn (model X.prog X.w) X.A X.env X.xe
structure Bdn (X : Cx) : Prop where
  nd : X.N.Nodup
instance {X : Cx} : Coe (Bd X) (Bdn X) := ⟨fun B => ⟨B.nd⟩⟩
def CS (X : Cx) (ρ : Lo) (st : Stmt) (W : WE) : Prop := ∀ F O σ H D, SOk X.K F O ρ σ H → Real X F O W D → ∀ (pins : List (Addr × Obj)) (s : Shared), Inv X pins σ H s → wpAny (model X.prog X.w) X.A (exec st X.env) (SP X pins D) X.xe s
def CSs (X : Cx) (ρ : Lo) (ss : List Stmt) (W : WE) : Prop := ∀ F O σ H D, SOk X.K F O ρ σ H → Real X F O W D → ∀ (pins : List (Addr × Obj)) (s : Shared), Inv X pins σ H s → wpAny (model X.prog X.w) X.A (execs ss X.env) (SP X pins D) X.xe s
def tws (X : Cx) (st : Stmt) : TS := fun D σ H => ∀ (pins : List (Addr × Obj)) (s : Shared), Inv X pins σ H s → wpAny (model X.prog X.w) X.A (exec st X.env) (SP X pins D) X.xe s
def twss (X : Cx) (ss : List Stmt) : TS := fun D σ H => ∀ (pins : List (Addr × Obj)) (s : Shared), Inv X pins σ H s → wpAny (model X.prog X.w) X.A (execs ss X.env) (SP X pins D) X.xe s
/-- an expression with all its outcomes -/
def CQ (X : Cx) (ρ : Lo) (e : Expr) (R : Res → Lo → Prop) : Prop := ∀ F O σ H (Q : VK) (Wx : WX), SOk X.K F O ρ σ H → L2N.Takes X Wx →
  (∀ d ρ' v H', R (.ok d) ρ' → owns ρ' = owns ρ → SOk X.K F O ρ' σ H' → Rep X.K (hid (UU O ρ') H') v d → Q v H') →
  (∀ er ρ' H' cls dd, R (.error er) ρ' → SOk X.K F O ρ' σ H' → ErRep X.K (hid (UU O ρ') H') cls dd er → Wx cls dd σ H') →
  ∀ (pins : List (Addr × Obj)) (s : Shared), Inv X pins σ H s → wpAny (model X.prog X.w) X.A (eval e X.env) (EP X pins σ Q) X.xe s
section
variable {X : Cx} {e a b c : Expr} {es : List Expr} {ρ ρ1 ρ2 ρ' : Lo} {x y d : D} {pos p p2 : Pos} {st : Stmt} {ss rest A B : List Stmt} {W W' : WE} {F F' : Hp} {O : Addr → Prop} {σ : L2.St} {H H' : Hp} {E : Ends} {i j : Nat} {n m : Str} {ds : List D} {q : Addr}
theorem ps_tw : PS X st (tws X st) := ⟨fun pins s _ _ _ I h => h pins s I⟩
theorem pss_tw : PSs X ss (twss X ss) := ⟨fun pins s _ _ _ I h => h pins s I⟩
theorem Real.up (r : Real X F O W E) (e : Ex F F') (od : ∀ a, O a → ∃ o, F a = some o) : Real X F' O W E :=
  ⟨fun ρ σ H h I => r.nx ρ σ H h (I.weak e od), fun d ρ σ H v h I q => r.rt d ρ σ H v h (I.weak e od) q, fun ρ σ H h I => r.bk ρ σ H h (I.weak e od), fun ρ σ H h I => r.ct ρ σ H h (I.weak e od),
    let ⟨Wx, t, h⟩ := r.er; ⟨Wx, t, fun er ρ σ H cls dd w I q => h er ρ σ H cls dd w (I.weak e od) q⟩⟩
/-- another normal end -/
theorem Real.nxt {N : L2.St → Hp → Prop} {P : Lo → Prop} (r : Real X F O W E) (h : ∀ ρ σ H, P ρ → SOk X.K F O ρ σ H → N σ H) : Real X F O { W with nx := P } { E with nx := N } := ⟨h, r.rt, r.bk, r.ct, r.er⟩
theorem CSs.imp (h : CSs X ρ ss W) (n1 : ∀ ρ, W.nx ρ → W'.nx ρ) (n2 : ∀ d ρ, W.rt d ρ → W'.rt d ρ) (n3 : ∀ ρ, W.bk ρ → W'.bk ρ) (n4 : ∀ ρ, W.ct ρ → W'.ct ρ) (n5 : ∀ er ρ, W.er er ρ → W'.er er ρ) : CSs X ρ ss W' :=
  fun F O σ H E I r => h F O σ H E I ⟨fun ρ σ H w J => r.nx ρ σ H (n1 ρ w) J, fun d ρ σ H v w J q => r.rt d ρ σ H v (n2 d ρ w) J q, fun ρ σ H w J => r.bk ρ σ H (n3 ρ w) J, fun ρ σ H w J => r.ct ρ σ H (n4 ρ w) J,
    let ⟨Wx, t, h⟩ := r.er; ⟨Wx, t, fun er ρ σ H cls dd w J q => h er ρ σ H cls dd (n5 er ρ w) J q⟩⟩
theorem css_nil (h : W.nx ρ) : CSs X ρ [] W := fun F O σ H E I r pins s J => pss_nil.run pins s σ H E J (r.nx ρ σ H h I)
theorem css_cons (h : CS X ρ st { W with nx := fun ρ' => CSs X ρ' rest W }) : CSs X ρ (st :: rest) W := fun F O σ H E I r pins s J =>
  (pss_cons ps_tw (pss_tw (ss := rest))).run pins s σ H E J (h F O σ H _ I (r.nxt fun ρ' σ' H' k I' => k F O σ' H' E I' r))
theorem css_of {t : TS} (hp : PS X st t) (h : ∀ F O σ H E, SOk X.K F O ρ σ H → Real X F O { W with nx := fun ρ' => CSs X ρ' rest W } E → t E σ H) : CSs X ρ (st :: rest) W :=
  css_cons fun F O σ H E I r pins s J => hp.run pins s σ H E J (h F O σ H E I r)
/-- let an own list go -/
theorem css_freeze (hi : ρ[i]? = some (.mut q ds)) (h : CSs X (ρ.set i (.dat (.lst ds))) ss W) : CSs X ρ ss W := fun F O σ H E I r => h F O σ H E (I.freeze hi) r
theorem CE.cq (h : CE X ρ e d ρ1) {R : Res → Lo → Prop} (r : R (.ok d) ρ1) : CQ X ρ e R := fun F O σ H Q Wx I t q _ pins s J => h.2 F O σ H Q I (fun v H' I' rv => q d ρ1 v H' r h.1 I' rv) pins s J

/-! name = e -/
theorem css_asg (i : Nat) (B : Bdn X) (he : CE X ρ e d ρ1) (k : CSs X (ρ1.set i (.dat d)) rest W) (hi : X.N[i]? = some n := by rfl) (hx : Loc X.env.scope n := by first | exact Or.inl rfl | exact Or.inr rfl)
    (hs : swapsWith e (some (.Name n p)) pos.line X.env = pure false := by rfl) (hf : X.fn n = true ∨ X.env.scope.names.lookup n = some .local := by first | exact .inl rfl | exact .inr rfl) : CSs X ρ (.Assign [.Name n p] e pos :: rest) W :=
  css_of (ps_set B.nd hi hx pe_tw hs hf) fun F O σ H E I r => he.2 F O σ H _ I fun v H1 J rv => r.nx _ _ _ k (J.set rv)
theorem css_asgQ (i : Nat) (B : Bdn X) (he : CQ X ρ e fun r ρ' => match r with | .ok d => CSs X (ρ'.set i (.dat d)) rest W | .error er => W.er er ρ') (hi : X.N[i]? = some n := by rfl) (hx : Loc X.env.scope n := by first | exact Or.inl rfl | exact Or.inr rfl)
    (hs : swapsWith e (some (.Name n p)) pos.line X.env = pure false := by rfl) (hf : X.fn n = true ∨ X.env.scope.names.lookup n = some .local := by first | exact .inl rfl | exact .inr rfl) : CSs X ρ (.Assign [.Name n p] e pos :: rest) W :=
  css_of (ps_set B.nd hi hx pe_tw hs hf) fun F O σ H E I r => by
    obtain ⟨Wx, t, h⟩ := r.er
    exact he F O σ H _ Wx I t (fun d ρ' v H' k _ J rv => r.nx _ _ _ k (J.set rv)) fun er ρ' H' cls dd k J rv => h er ρ' σ H' cls dd k J rv
/-- .. a new list that will change -/
theorem SOk.own1 {vs : List V} (J : SOk X.K F O ρ σ H) (hp : H q = none) (r : Reps X.K (hid (UU O ρ) H) vs ds) (hi : i < ρ.length) : SOk X.K F O (ρ.set i (.mut q ds)) (σ.set i (some (.ref q))) (upd H q (.lst vs)) := by
  have nu := J.nU hp
  have J' := J.new (o := .lst vs) hp
  have r' : Reps X.K (hid (UU O ρ) (upd H q (.lst vs))) vs ds := r.mono (ex_new hp)
  have ow : ∀ a, owns (ρ.set i (.mut q ds)) a → owns ρ a ∨ a = q := fun a ⟨es, h⟩ => by
    rcases List.mem_or_eq_of_mem_set h with h | h
    · exact .inl ⟨es, h⟩
    · cases h
      exact .inr rfl
  have nF : F q = none := by
    cases z : F q with
    | none => rfl
    | some o =>
      rw [J.fr q o z] at hp
      cases hp
  have exh : Ex (hid (UU O ρ) H) (hid (UU O (ρ.set i (.mut q ds))) (upd H q (.lst vs))) := ex_hid fun a o _ n h => by
    have nq : a ≠ q := ne_of_none h hp
    refine ⟨fun z => ?_, by rw [upd_ne nq]; exact h⟩
    rcases z with z | z
    · exact n (.inl z)
    · rcases ow a z with z | z
      · exact n (.inr z)
      · exact nq z
  refine ⟨by rw [List.length_set, List.length_set]; exact J.len, fun k d' hk => ?_, fun k q' es hk => ?_, fun k l q' es es' hk hl => ?_, J'.fr, J.od, J'.tb, J.ft⟩
  · by_cases e : i = k
    · subst e
      rw [List.getElem?_set_self hi] at hk
      cases hk
    · rw [List.getElem?_set_ne e] at hk
      obtain ⟨u, h1, h2⟩ := J.dat k d' hk
      exact ⟨u, by rw [List.getElem?_set_ne e]; exact h1, h2.mono exh⟩
  · by_cases e : i = k
    · subst e
      rw [List.getElem?_set_self hi] at hk
      cases hk
      exact ⟨List.getElem?_set_self (by rw [J.len]; exact hi), nF, vs, upd_same, r.mono exh⟩
    · rw [List.getElem?_set_ne e] at hk
      obtain ⟨h1, h2, ws, h3, h4⟩ := J.mt k q' es hk
      exact ⟨by rw [List.getElem?_set_ne e]; exact h1, h2, ws, by rw [upd_ne (ne_of_none h3 hp)]; exact h3, h4.mono exh⟩
  · have hq : ∀ (k : Nat) (es : List D), ρ[k]? ≠ some (.mut q es) := fun k es h => by
      obtain ⟨_, _, ws, h3, _⟩ := J.mt k q es h
      rw [hp] at h3
      cases h3
    by_cases e : i = k
    · subst e
      by_cases e' : i = l
      · exact e'
      · rw [List.getElem?_set_self hi] at hk
        cases hk
        rw [List.getElem?_set_ne e'] at hl
        exact absurd hl (hq l es')
    · rw [List.getElem?_set_ne e] at hk
      by_cases e' : i = l
      · subst e'
        rw [List.getElem?_set_self hi] at hl
        cases hl
        exact absurd hk (hq k es)
      · rw [List.getElem?_set_ne e'] at hl
        exact J.nd k l q' es es' hk hl
theorem css_asgN (i : Nat) (B : Bdn X) (he : CN X ρ e ds ρ1) (k : ∀ q, CSs X (ρ1.set i (.mut q ds)) rest W) (hl : i < ρ1.length := by first | decide | simp) (hi : X.N[i]? = some n := by rfl) (hx : Loc X.env.scope n := by first | exact Or.inl rfl | exact Or.inr rfl)
    (hs : swapsWith e (some (.Name n p)) pos.line X.env = pure false := by rfl) (hf : X.fn n = true ∨ X.env.scope.names.lookup n = some .local := by first | exact .inl rfl | exact .inr rfl) : CSs X ρ (.Assign [.Name n p] e pos :: rest) W :=
  css_of (ps_set B.nd hi hx pe_tw hs hf) fun F O σ H E I r => he.2 F O σ H _ I fun q vs H1 J hp rv => r.nx _ _ _ (k q) (J.own1 hp rv hl)

/-! e as a statement, return, if, pass, break, continue -/
theorem css_expr (he : CE X ρ e d ρ1) (k : CSs X ρ1 rest W) (hs : swapsWith e none pos.line X.env = pure false := by rfl) : CSs X ρ (.Expr e pos :: rest) W := css_of (ps_expr pe_tw hs) fun F O σ H E I r => he.2 F O σ H _ I fun v H1 J _ => r.nx _ _ _ k J
theorem css_exprQ (he : CQ X ρ e fun r ρ' => match r with | .ok _ => CSs X ρ' rest W | .error er => W.er er ρ') (hs : swapsWith e none pos.line X.env = pure false := by rfl) : CSs X ρ (.Expr e pos :: rest) W := css_of (ps_expr pe_tw hs) fun F O σ H E I r => by
  obtain ⟨Wx, t, h⟩ := r.er
  exact he F O σ H _ Wx I t (fun d ρ' v H' k _ J rv => r.nx _ _ _ k J) fun er ρ' H' cls dd k J rv => h er ρ' σ H' cls dd k J rv
theorem css_ret (he : CE X ρ e d ρ1) (k : W.rt d ρ1) : CSs X ρ (.Return (some e) pos :: rest) W := css_of (ps_ret pe_tw) fun F O σ H E I r => he.2 F O σ H _ I fun v H1 J rv => r.rt d ρ1 σ H1 v k J rv
theorem css_retQ (he : CQ X ρ e fun r ρ' => match r with | .ok d => W.rt d ρ' | .error er => W.er er ρ') : CSs X ρ (.Return (some e) pos :: rest) W := css_of (ps_ret pe_tw) fun F O σ H E I r => by
  obtain ⟨Wx, t, h⟩ := r.er
  exact he F O σ H _ Wx I t (fun d ρ' v H' k _ J rv => r.rt d ρ' σ H' v k J rv) fun er ρ' H' cls dd k J rv => h er ρ' σ H' cls dd k J rv
theorem css_retN (k : W.rt .non ρ) : CSs X ρ (.Return none pos :: rest) W := css_of ps_retN fun F O σ H E I r => r.rt .non ρ σ H .non k I .non
theorem css_if {k : Bool} (hc : CT X ρ c k ρ1) (h1 : k = true → CSs X ρ1 A { W with nx := fun ρ' => CSs X ρ' rest W }) (h2 : k = false → CSs X ρ1 B { W with nx := fun ρ' => CSs X ρ' rest W }) : CSs X ρ (.If c A B pos :: rest) W :=
  css_of (ps_if pt_tw pss_tw pss_tw) fun F O σ H E I r => hc.2 F O σ H _ I fun H1 J => by
    cases k with
    | true => rw [if_pos rfl]; exact h1 rfl F O σ H1 E J r
    | false => rw [if_neg Bool.false_ne_true]; exact h2 rfl F O σ H1 E J r
theorem css_pass (k : CSs X ρ rest W) : CSs X ρ (.Pass pos :: rest) W := css_of ps_pass fun F O σ H E I r => r.nx _ _ _ k I
theorem css_break (k : W.bk ρ) : CSs X ρ (.Break pos :: rest) W := css_of ps_break fun F O σ H E I r => r.bk _ _ _ k I
theorem css_cont (k : W.ct ρ) : CSs X ρ (.Continue pos :: rest) W := css_of ps_continue fun F O σ H E I r => r.ct _ _ _ k I

/-! a, b = e (a tuple) -/
theorem css_tup {T : Tg} {tg : Expr} (B : Bd X) (he : CE X ρ e d ρ1) (hg : PG X tg (gOf X.K T)) (hb : Bind T d ρ1 ρ2) (k : CSs X ρ2 rest W) (hs : swapsWithSole [tg] e pos.line X.env = pure false := by rfl) (hw : swappedStores [tg] e X.env = pure none := by rfl)
    (h1 : (assignEach [tg] X.env).map (·.2) = [assign tg X.env] := by rfl) : CSs X ρ (.Assign [tg] e pos :: rest) W := css_of (ps_asg pe_tw hg hs hw h1) fun F O σ H E I r => he.2 F O σ H _ I fun v H1 J rv => hb.run J rv fun σ' L _ _ => r.nx _ _ _ k L
/-- a, b = x, y: two local names -/
theorem css_par (i j : Nat) {px py pt pt2 : Pos} {kt k2} (B : Bd X) (ha : CD X ρ [a, b] [x, y] ρ1) (k : CSs X ((ρ1.set i (.dat x)).set j (.dat y)) rest W) (hij : i ≠ j := by decide) (hi : X.N[i]? = some n := by rfl) (hj : X.N[j]? = some m := by rfl)
    (hx : X.env.scope.names.lookup n = some .local := by rfl) (hy : X.env.scope.names.lookup m = some .local := by rfl)
    (hw : swappedStores [.Tuple [.Name n px, .Name m py] kt pt] (.Tuple [a, b] k2 pt2) X.env = pure (some [n, m]) := by rfl)
    (hs : swapsWithSole [.Tuple [.Name n px, .Name m py] kt pt] (.Tuple [a, b] k2 pt2) pos.line X.env = pure false := by rfl) : CSs X ρ (.Assign [.Tuple [.Name n px, .Name m py] kt pt] (.Tuple [a, b] k2 pt2) pos :: rest) W :=
  css_of (ps_par B.calm B.nd hi hj hij hx hy pa_tw hw hs) fun F O σ H E I r => ha.2 F O σ H _ I fun vs H1 J rv => by
    obtain ⟨v, w, rfl, r1, r2⟩ := two_of rv
    refine ⟨v, w, rfl, r.nx _ _ _ k ((J.set r1).set (r2.mono (ex_hid fun a o _ nn h => ⟨fun z => nn (UU_set datNe z), h⟩)))⟩

/-! for -/
structure WK (K : PySem.W.Frag) (S T : Hp) (J : It) (ds : List D) : Prop where
  go : ∀ (i : Nat) H, i < ds.length → Ex S H → J.go i H
  stop : ∀ H, Ex S H → J.stop ds.length H
  yld : ∀ (i : Nat) H v H', i < ds.length → Ex S H → J.yld i H v H' → ∃ d, ds[i]? = some d ∧ ((H' = H ∧ Rep K T v d) ∨ ∃ p vs es, H p = none ∧ v = .ref p ∧ H' = upd H p (.tup vs) ∧ d = .tup es ∧ Reps K T vs es)
structure CI (X : Cx) (ρ : Lo) (tg iter : Expr) (ds : List D) (ρ' : Lo) : Prop where
  ex : ∃ wi, PI X tg iter wi ∧ owns ρ' = owns ρ ∧ ∀ F O σ H (R : It → Hp → Prop), SOk X.K F O ρ σ H → (∀ J H1, SOk X.K F O ρ' σ H1 → WK X.K (VL.sup ρ' H1) (hid (UU O ρ') H1) J ds → R J H1) → wi σ H R
/-- what the walk gives stands beside the state -/
theorem WK.got {J : It} {S T : Hp} {ρ' : Lo} {H' : Hp} {v : V} (w : WK X.K S T J ds) (hT : ∀ a o, T a = some o → S a = some o ∧ ¬ O a) (I : SOk X.K S O ρ' σ H) (hi : i < ds.length) (y : J.yld i H v H') : ∃ d, ds[i]? = some d ∧ SOk X.K S O ρ' σ H' ∧ Rep X.K (hid (UU O ρ') H') v d := by
  have sub : Ex T (hid (UU O ρ') H) := fun a o h => by
    obtain ⟨h1, h2⟩ := hT a o h
    have := I.ft a o h1
    exact hid_of (fun z => z.elim h2 fun z => by rw [I.own z] at h1; cases h1) (I.fr a o h1)
  obtain ⟨d, hd, h⟩ := w.yld i H v H' hi I.fr y
  refine ⟨d, hd, ?_⟩
  rcases h with ⟨rfl, r⟩ | ⟨p, vs, es, hp, rfl, rfl, rfl, r⟩
  · exact ⟨I, r.mono sub⟩
  · exact ⟨I.new hp, .tup (.of (I.newHid hp)) ((r.mono sub).mono (ex_new hp))⟩
theorem css_for {T : Tg} {tg iter : Expr} {body : List Stmt} (B : Bd X) (hi : CI X ρ tg iter ds ρ1) (hg : PG X tg (gOf X.K T)) (J : Nat → Lo → Prop) (h0 : J 0 ρ1)
    (hs : ∀ (i : Nat) d ρ, ds[i]? = some d → J i ρ → ∃ ρ', Bind T d ρ ρ' ∧ CSs X ρ' body { nx := J (i + 1), ct := J (i + 1), bk := fun ρ => CSs X ρ rest W, rt := W.rt, er := W.er })
    (hd : ∀ ρ, J ds.length ρ → CSs X ρ rest W) (hfs : ∀ x, foldedSetIterable iter X.env x = pure x := by intro _; rfl) : CSs X ρ (.For tg iter body [] pos :: rest) W := by
  obtain ⟨wi, hpi, how, hw⟩ := hi.ex
  refine css_of (ps_for B.ps B.calm hpi hg pss_tw hfs) fun F O σ H E I r => hw F O σ H _ I fun Jt H1 I1 wk => ?_
  have hT : ∀ a o, hid (UU O ρ1) H1 a = some o → VL.sup ρ1 H1 a = some o ∧ ¬ O a := fun a o h => by
    have := nt_hid h
    obtain ⟨n, h⟩ := of_hid h
    exact ⟨hid_of (fun z => n (.inr z)) h, fun z => n (.inl z)⟩
  have R' : Real X (VL.sup ρ1 H1) O { W with nx := fun ρ' => CSs X ρ' rest W } E := r.up I1.le_sup I1.od
  refine ⟨fun i m σ H => m = ds.length - i ∧ i ≤ ds.length ∧ ∃ ρi, J i ρi ∧ SOk X.K (VL.sup ρ1 H1) O ρi σ H, ⟨ds.length, by simp, Nat.zero_le _, ρ1, h0, I1.sup⟩, ?_⟩
  rintro i m σi Hi ⟨rfl, hle, ρi, hJ, Ii⟩
  by_cases hlt : i < ds.length
  · refine .inr ⟨wk.go i Hi hlt Ii.fr, fun σ' H' => ∃ ρi, J (i + 1) ρi ∧ SOk X.K (VL.sup ρ1 H1) O ρi σ' H', fun σ' H' h => ⟨ds.length - (i + 1), by omega, rfl, hlt, h⟩, fun v H' y => ?_⟩
    obtain ⟨d, hd', I2, rv⟩ := wk.got hT Ii hlt y
    obtain ⟨ρ', hb, hbody⟩ := hs i d ρi hd' hJ
    refine hb.run I2 rv fun σ' L _ _ => ?_
    refine hbody _ O σ' H' _ L ⟨fun ρ σ H h I => ⟨ρ, h, I⟩, R'.rt, R'.nx, fun ρ σ H h I => ⟨ρ, h, I⟩, R'.er⟩
  · have e : i = ds.length := by omega
    subst e
    exact .inl ⟨wk.stop Hi Ii.fr, R'.nx ρi σi Hi (hd ρi hJ) Ii⟩
/-! while -/
theorem css_while {body : List Stmt} (B : Bd X) (J : Nat → Lo → Prop) (m0 : Nat) (h0 : J m0 ρ)
    (hs : ∀ (m : Nat) ρ, J m ρ → ∃ k ρ', CT X ρ c k ρ' ∧ (k = true → CSs X ρ' body { nx := fun ρ => ∃ m', m' < m ∧ J m' ρ, ct := fun ρ => ∃ m', m' < m ∧ J m' ρ, bk := fun ρ => CSs X ρ rest W, rt := W.rt, er := W.er }) ∧ (k = false → CSs X ρ' rest W)) :
    CSs X ρ (.While c body [] pos :: rest) W := by
  refine css_of (ps_while B.ps pt_tw pss_tw) fun F O σ H E I r => ?_
  refine ⟨fun m σ H => ∃ ρi, J m ρi ∧ SOk X.K F O ρi σ H, ⟨m0, ρ, h0, I⟩, ?_⟩
  rintro m σi Hi ⟨ρi, hJ, Ii⟩
  obtain ⟨k, ρ', hc, h1, h2⟩ := hs m ρi hJ
  refine hc.2 F O σi Hi _ Ii fun H1 L => ?_
  cases k with
  | true =>
    rw [if_pos rfl]
    refine ⟨fun σ' H' => ∃ m', m' < m ∧ ∃ ρi, J m' ρi ∧ SOk X.K F O ρi σ' H', fun σ' H' ⟨m', hm, h⟩ => ⟨m', hm, h⟩, ?_⟩
    exact h1 rfl F O σi H1 _ L ⟨fun ρ σ H ⟨m', hm, h⟩ I => ⟨m', hm, ρ, h, I⟩, r.rt, r.nx, fun ρ σ H ⟨m', hm, h⟩ I => ⟨m', hm, ρ, h, I⟩, r.er⟩
  | false =>
    rw [if_neg Bool.false_ne_true]
    exact r.nx ρ' σi H1 (h2 rfl) L
end
end VL
end

section
set_option Elab.async false
set_option linter.all false
set_option maxRecDepth 100000
set_option maxHeartbeats 4000000
namespace VL
open PySem PySem.Spec PyProof.Rows L2

/-! ### what a for or a comprehension walks -/
section
variable {X : Cx} {e a b c tg : Expr} {es : List Expr} {ρ ρ1 ρ2 ρ3 ρ' : Lo} {x y d : D} {pos p p2 : Pos} {F F' : Hp} {O : Addr → Prop} {σ : L2.St} {H H' S T : Hp} {i j : Nat} {n m : Str} {ds es' : List D} {q : Addr}
theorem WK.of {J : It} {G : Hp → Prop} {Y : Nat → Hp → V → Hp → Prop} {k : Nat} (w : Walk J k G Y) (hk : k = ds.length) (hG : ∀ H, Ex S H → G H)
    (hY : ∀ (i : Nat) H v H', i < k → Ex S H → Y i H v H' → ∃ d, ds[i]? = some d ∧ ((H' = H ∧ Rep X.K T v d) ∨ ∃ p vs es, H p = none ∧ v = .ref p ∧ H' = upd H p (.tup vs) ∧ d = .tup es ∧ Reps X.K T vs es)) : WK X.K S T J ds := by
  subst hk
  exact ⟨fun i H hi h => w.goes i H hi (hG H h), fun H h => w.stops H (hG H h), fun i H v H' hi h y => hY i H v H' hi h (w.yields i H v H' hi (hG H h) y)⟩
theorem T_S (ρ1 : Lo) (H1 : Hp) : Ex (hid (UU O ρ1) H1) (VL.sup ρ1 H1) := fun a o h => by
  have := nt_hid h
  obtain ⟨n, h⟩ := of_hid h
  exact hid_of (fun z => n (.inr z)) h
theorem wk_list {vs : List V} (h1 : hid (UU O ρ1) H q = some (.lst vs)) (rs : Reps X.K (hid (UU O ρ1) H) vs ds) : WK X.K (VL.sup ρ1 H) (hid (UU O ρ1) H) (Itl X.K q) ds :=
  WK.of (walk_list (K := X.K) (a := q) (xs := vs)) rs.length (fun H' h => .of (h _ _ (T_S ρ1 H _ _ h1))) fun i H' v H'' hi h ⟨e1, e2⟩ => by
    obtain ⟨d, h3, h4⟩ := rs.get' e2
    exact ⟨d, h3, .inl ⟨e1, h4⟩⟩
theorem ci_list (ha : CE X ρ e (.lst ds) ρ1) : CI X ρ tg e ds ρ1 := ⟨_, pi_list pe_tw, ha.1, fun F O σ H R I k => ha.2 F O σ H _ I fun v H1 J r => by
  cases r with
  | lst h1 rs => exact ⟨_, rfl, ⟨_, .of (hid_ex _ _ h1)⟩, k _ H1 J (wk_list h1 rs)⟩⟩
theorem ci_tup (ha : CE X ρ e (.tup ds) ρ1) : CI X ρ tg e ds ρ1 := ⟨_, pi_tup pe_tw, ha.1, fun F O σ H R I k => ha.2 F O σ H _ I fun v H1 J r => by
  cases r with
  | @tup a vs _ h1 rs => exact ⟨_, rfl, ⟨_, hid_ex.t h1⟩, k _ H1 J (WK.of (walk_tup (K := X.K) (a := a) (xs := vs)) rs.length (fun H' h => h.t ((T_S ρ1 H1).t h1)) fun i H' v H'' hi h ⟨e1, e2⟩ => by
      obtain ⟨d, h3, h4⟩ := rs.get' e2
      exact ⟨d, h3, .inl ⟨e1, h4⟩⟩)⟩⟩
def rangeD (lo : Int) (n : Nat) : List D := (List.range n).map fun i => .int (lo + (i : Nat))
theorem rangeD_len {lo : Int} {n : Nat} : (rangeD lo n).length = n := by unfold rangeD; rw [List.length_map, List.length_range]
theorem rangeD_get {lo : Int} {n i : Nat} (h : i < n) : (rangeD lo n)[i]? = some (.int (lo + (i : Nat))) := by
  unfold rangeD
  rw [List.getElem?_map, List.getElem?_range h]
  rfl
theorem wk_range {lo : Int} {n : Nat} : WK X.K S T (Itr lo n) (rangeD lo n) :=
  WK.of (walk_range (lo := lo) (n := n)) rangeD_len.symm (fun _ _ => trivial) fun i H' v H'' hi h ⟨e1, e2⟩ => ⟨_, rangeD_get hi, .inl ⟨e1, by rw [e2]; exact .int _⟩⟩
theorem ci_range1 {j : Int} (hm : X.mg "range" = none) (ha : CE X ρ a (.int j) ρ1) (hj : -(2 ^ 62) ≤ j ∧ j < 2 ^ 62) (hg : Gl X "range" := by rfl) (hs : starEach [a] X.env = [(false, eval a X.env)] := by rfl)
    (he : starEach [a] X.env = (false, eval a X.env) :: starEach [] X.env := by rfl) : CI X ρ tg (.Call (.Name "range" p) [a] [] pos) (rangeD 0 j.toNat) ρ1 :=
  ⟨_, pi_range1 hg hm pa_tw hs, ha.1, fun F O σ H R I k => (d_cons ha d_nil he).2 F O σ H _ I fun vs H1 J r => by
    obtain ⟨v, rfl, ru⟩ := one_of r
    cases ru
    exact ⟨j, rfl, hj.1, hj.2, k _ H1 J wk_range⟩⟩
theorem ci_range2 {i j : Int} (hm : X.mg "range" = none) (ha : CE X ρ a (.int i) ρ1) (hb : CE X ρ1 b (.int j) ρ2) (hj : -(2 ^ 62) ≤ i ∧ i < 2 ^ 62 ∧ -(2 ^ 62) ≤ j ∧ j < 2 ^ 62) (hg : Gl X "range" := by rfl)
    (hs : starEach [a, b] X.env = [(false, eval a X.env), (false, eval b X.env)] := by rfl) (hs2 : starEach [b] X.env = [(false, eval b X.env)] := by rfl)
    (he : starEach [a, b] X.env = (false, eval a X.env) :: starEach [b] X.env := by rfl) (he2 : starEach [b] X.env = (false, eval b X.env) :: starEach [] X.env := by rfl) : CI X ρ tg (.Call (.Name "range" p) [a, b] [] pos) (rangeD i (j - i).toNat) ρ2 :=
  ⟨_, pi_range2 hg hm pa_tw hs hs2, hb.1.trans ha.1, fun F O σ H R I k => (d_cons ha (d_cons hb d_nil he2) he).2 F O σ H _ I fun vs H1 J r => by
    obtain ⟨v, w, rfl, ru, rw'⟩ := two_of r
    cases ru
    cases rw'
    exact ⟨i, j, rfl, hj, k _ H1 J wk_range⟩⟩
def rangeDn (lo : Int) (n : Nat) : List D := (List.range n).map fun i => .int (lo - (i : Nat))
theorem rangeDn_len {lo : Int} {n : Nat} : (rangeDn lo n).length = n := by unfold rangeDn; rw [List.length_map, List.length_range]
theorem rangeDn_get {lo : Int} {n i : Nat} (h : i < n) : (rangeDn lo n)[i]? = some (.int (lo - (i : Nat))) := by
  unfold rangeDn
  rw [List.getElem?_map, List.getElem?_range h]
  rfl
theorem three_of {K : PySem.W.Frag} {H : Hp} {z : D} {vs : List V} (r : Reps K H vs [x, y, z]) : ∃ v w u, vs = [v, w, u] ∧ Rep K H v x ∧ Rep K H w y ∧ Rep K H u z := by
  cases r with
  | cons h t =>
    obtain ⟨w, u, rfl, h2, h3⟩ := two_of t
    exact ⟨_, w, u, rfl, h, h2, h3⟩
/-- range(i, j, -1) -/
theorem ci_down {i j : Int} (hm : X.mg "range" = none) (ha : CE X ρ a (.int i) ρ1) (hb : CE X ρ1 b (.int j) ρ2) (hc : CE X ρ2 c (.int (-1)) ρ3) (hj : -(2 ^ 62) ≤ i ∧ i < 2 ^ 62 ∧ -(2 ^ 62) ≤ j ∧ j < 2 ^ 62) (hg : Gl X "range" := by rfl)
    (hs : starEach [a, b, c] X.env = (false, eval a X.env) :: starEach [b, c] X.env := by rfl) (hpl : (backTo pos (starEach [b, c] X.env)).any (·.1) = false := by rfl)
    (he2 : starEach [b, c] X.env = (false, eval b X.env) :: starEach [c] X.env := by rfl) (he3 : starEach [c] X.env = (false, eval c X.env) :: starEach [] X.env := by rfl) :
    CI X ρ tg (.Call (.Name "range" p) [a, b, c] [] pos) (rangeDn i (i - j).toNat) ρ3 :=
  ⟨_, pi_range3 hg hm pa_tw hs hpl, hc.1.trans (hb.1.trans ha.1), fun F O σ H R I k => (d_cons ha (d_cons hb (d_cons hc d_nil he3) he2) hs).2 F O σ H _ I fun vs H1 J r => by
    obtain ⟨v, w, u, rfl, ru, rw', ru3⟩ := three_of r
    cases ru
    cases rw'
    cases ru3
    refine ⟨i, j, -1, (i - j).toNat, rfl, RgC.neg hj.1 hj.2.1 hj.2.2.1 hj.2.2.2, k _ H1 J ?_⟩
    exact WK.of (walk_rangeC (lo := i) (c := -1) (n := (i - j).toNat)) rangeDn_len.symm (fun _ _ => trivial) fun t H' v H'' hi h ⟨e1, e2⟩ => ⟨_, rangeDn_get hi, .inl ⟨e1, by
      have e3 : i + ((t : Nat) : Int) * -1 = i - (t : Nat) := by omega
      rw [e2]
      show Rep _ _ (V.int (i + ((t : Nat) : Int) * -1)) _
      rw [e3]
      exact .int _⟩⟩⟩
/-- zip of two lists, of two tuples -/
def zipD (xs ys : List D) : List D := List.zipWith (fun x y => .tup [x, y]) xs ys
theorem zipD_get {xs ys : List D} {i : Nat} (h1 : xs[i]? = some x) (h2 : ys[i]? = some y) : (zipD xs ys)[i]? = some (.tup [x, y]) := by
  unfold zipD
  rw [List.getElem?_zipWith, h1, h2]
theorem ci_zipL {xs ys : List D} {elts : List Expr} {kk : Nat} {tpos : Pos} (hm : X.mg "zip" = none) (ha : CE X ρ a (.lst xs) ρ1) (hb : CE X ρ1 b (.lst ys) ρ2) (hg : Gl X "zip" := by rfl)
    (hs : starEach [a, b] X.env = (false, eval a X.env) :: starEach [b] X.env := by rfl) (hpl : (backTo pos (starEach [b] X.env)).any (·.1) = false := by rfl)
    (he2 : starEach [b] X.env = (false, eval b X.env) :: starEach [] X.env := by rfl) : CI X ρ (.Tuple elts kk tpos) (.Call (.Name "zip" p) [a, b] [] pos) (zipD xs ys) ρ2 :=
  ⟨_, RZ.pi_zipA hg hm pa_tw hs hpl, hb.1.trans ha.1, fun F O σ H R I k => (d_cons ha (d_cons hb d_nil he2) hs).2 F O σ H _ I fun vs H1 J r => by
    obtain ⟨v, w, rfl, ru, rw'⟩ := two_of r
    cases ru with
    | @lst a1 vs1 _ h1 r1 =>
      cases rw' with
      | @lst a2 vs2 _ h2 r2 =>
        refine ⟨a1, a2, vs1, vs2, rfl, .inl ⟨.of (hid_ex _ _ h1), .of (hid_ex _ _ h2), k _ H1 J ?_⟩⟩
        refine WK.of (walk_zip (K := X.K) (a := a1) (b := a2) (xs := vs1) (ys := vs2) rfl) (by unfold zipD; rw [List.length_zipWith, r1.length, r2.length]) (fun H' h => ⟨.of (h _ _ (T_S ρ2 H1 _ _ h1)), .of (h _ _ (T_S ρ2 H1 _ _ h2))⟩) fun i H' v H'' hi h y => ?_
        obtain ⟨t, u1, u2, rfl, ht, rfl, e1, e2⟩ := y
        obtain ⟨d1, q1, q2⟩ := r1.get' e1
        obtain ⟨d2, q3, q4⟩ := r2.get' e2
        exact ⟨_, zipD_get q1 q3, .inr ⟨t, _, _, ht, rfl, rfl, rfl, .cons q2 (.cons q4 .nil)⟩⟩⟩
/-- enumerate of a list -/
def enumD (xs : List D) : List D := (List.range xs.length).map fun i => .tup [.int (i : Nat), xs.getD i .non]
theorem enumD_len {xs : List D} : (enumD xs).length = xs.length := by unfold enumD; rw [List.length_map, List.length_range]
theorem enumD_get {xs : List D} {i : Nat} (h : xs[i]? = some x) : (enumD xs)[i]? = some (.tup [.int (i : Nat), x]) := by
  have hi : i < xs.length := (List.getElem?_eq_some_iff.mp h).1
  unfold enumD
  rw [List.getElem?_map, List.getElem?_range hi]
  show some (D.tup [.int (i : Nat), xs.getD i .non]) = _
  rw [List.getD_eq_getElem?_getD, h]
  rfl
theorem ci_enumL {xs : List D} {elts : List Expr} {kk : Nat} {tpos : Pos} (hm : X.mg "enumerate" = none) (ha : CE X ρ a (.lst xs) ρ1) (hg : Gl X "enumerate" := by rfl)
    (hs : starEach [a] X.env = [(false, eval a X.env)] := by rfl) (he : starEach [a] X.env = (false, eval a X.env) :: starEach [] X.env := by rfl) : CI X ρ (.Tuple elts kk tpos) (.Call (.Name "enumerate" p) [a] [] pos) (enumD xs) ρ1 :=
  ⟨_, pi_enum hg hm pa_tw hs, ha.1, fun F O σ H R I k => (d_cons ha d_nil he).2 F O σ H _ I fun vs H1 J r => by
    obtain ⟨v, rfl, ru⟩ := one_of r
    cases ru with
    | @lst a1 vs1 _ h1 r1 =>
      refine ⟨a1, vs1, rfl, .of (hid_ex _ _ h1), k _ H1 J ?_⟩
      refine WK.of (walk_enum (K := X.K) (a := a1) (xs := vs1)) (by rw [enumD_len, r1.length]) (fun H' h => .of (h _ _ (T_S ρ1 H1 _ _ h1))) fun i H' v H'' hi h y => ?_
      obtain ⟨t, u1, u2, rfl, ht, rfl, e1, e2⟩ := y
      cases e1
      obtain ⟨d2, q3, q4⟩ := r1.get' e2
      exact ⟨_, enumD_get q3, .inr ⟨t, _, _, ht, rfl, rfl, rfl, .cons (.int _) (.cons q4 .nil)⟩⟩⟩

/-! ### comprehensions -/
/-- the slots of vs empty -/
def wipeL (ρ : Lo) : List Nat → Lo
  | [] => ρ
  | v :: vs => (wipeL ρ vs).set v .un
theorem wipeL_len : ∀ {vs : List Nat}, (wipeL ρ vs).length = ρ.length
  | [] => rfl
  | v :: vs => by unfold wipeL; rw [List.length_set, wipeL_len]
theorem wipeL_get {k : Nat} {s : Sl} : ∀ {vs : List Nat}, (wipeL ρ vs)[k]? = some s → (s = .un ∧ k ∈ vs) ∨ (k ∉ vs ∧ ρ[k]? = some s)
  | [], h => .inr ⟨by simp, h⟩
  | v :: vs, h => by
    unfold wipeL at h
    by_cases e : v = k
    · subst e
      have hl : v < (wipeL ρ vs).length := by
        have := (List.getElem?_eq_some_iff.mp h).1
        rw [List.length_set] at this
        exact this
      rw [List.getElem?_set_self hl] at h
      cases h
      exact .inl ⟨rfl, List.mem_cons_self⟩
    · rw [List.getElem?_set_ne e] at h
      rcases wipeL_get h with ⟨h1, h2⟩ | ⟨h1, h2⟩
      · exact .inl ⟨h1, List.mem_cons_of_mem _ h2⟩
      · exact .inr ⟨fun z => (List.mem_cons.mp z).elim (fun z => e z.symm) h1, h2⟩
theorem wipe_get {σ : L2.St} {k : Nat} : ∀ {vs : List Nat}, k ∉ vs → (wipe σ vs)[k]? = σ[k]?
  | [], _ => rfl
  | v :: vs, h => by
    unfold wipe
    rw [List.getElem?_set_ne fun e => h (by rw [e]; exact List.mem_cons_self)]
    exact wipe_get fun z => h (List.mem_cons_of_mem _ z)
theorem wipe_in {σ : L2.St} {k : Nat} : ∀ {vs : List Nat}, k ∈ vs → k < σ.length → (wipe σ vs)[k]? = some none
  | v :: vs, h, hl => by
    unfold wipe
    by_cases e : v = k
    · subst e
      exact List.getElem?_set_self (by rw [L2.wipe_length]; exact hl)
    · rw [List.getElem?_set_ne e]
      exact wipe_in ((List.mem_cons.mp h).resolve_left fun z => e z.symm) hl
theorem wipe_eq {σ σ' : L2.St} {vs : List Nat} (hl : σ'.length = σ.length) (h : ∀ k, k ∉ vs → σ'[k]? = σ[k]?) : wipe σ' vs = wipe σ vs := by
  apply List.ext_getElem?
  intro k
  by_cases hk : k ∈ vs
  · by_cases hlt : k < σ.length
    · rw [wipe_in hk hlt, wipe_in hk (by rw [hl]; exact hlt)]
    · rw [List.getElem?_eq_none (by rw [L2.wipe_length]; omega), List.getElem?_eq_none (by rw [L2.wipe_length]; omega)]
  · rw [wipe_get hk, wipe_get hk]
    exact h k hk
/-- no own list in the slots of vs -/
def noMut (ρ : Lo) (vs : List Nat) : Prop := ∀ k p ds, k ∈ vs → ρ[k]? ≠ some (.mut p ds)
theorem SOk.wipe {vs : List Nat} (I : SOk X.K F O ρ σ H) (hn : noMut ρ vs) : SOk X.K F O (wipeL ρ vs) (wipe σ vs) H := by
  have sub : ∀ a, owns (wipeL ρ vs) a → owns ρ a := fun a ⟨es, h⟩ => by
    obtain ⟨k, hk⟩ := List.getElem?_of_mem h
    rcases wipeL_get hk with ⟨z, _⟩ | ⟨_, h2⟩
    · cases z
    · exact ⟨es, List.mem_of_getElem? h2⟩
  have ex : Ex (hid (UU O ρ) H) (hid (UU O (wipeL ρ vs)) H) := ex_hid fun a o _ n h => ⟨fun z => n (z.elim .inl fun z => .inr (sub a z)), h⟩
  refine ⟨by rw [L2.wipe_length, wipeL_len]; exact I.len, fun k d h => ?_, fun k p es h => ?_, fun k l p es es' h h' => ?_, I.fr, I.od, I.tb, I.ft⟩
  · rcases wipeL_get h with ⟨z, _⟩ | ⟨h1, h2⟩
    · cases z
    · obtain ⟨v, e1, e2⟩ := I.dat k d h2
      exact ⟨v, by rw [wipe_get h1]; exact e1, e2.mono ex⟩
  · rcases wipeL_get h with ⟨z, _⟩ | ⟨h1, h2⟩
    · cases z
    · obtain ⟨e1, e2, vs', e3, e4⟩ := I.mt k p es h2
      exact ⟨by rw [wipe_get h1]; exact e1, e2, vs', e3, e4.mono ex⟩
  · rcases wipeL_get h with ⟨z, _⟩ | ⟨_, h2⟩
    · cases z
    · rcases wipeL_get h' with ⟨z, _⟩ | ⟨_, h3⟩
      · cases z
      · exact I.nd k l p es es' h2 h3
/-- an object that is hidden may change -/
theorem SOk.under {vs ws : List V} (I : SOk X.K F O ρ σ H) (hq : O q) (hl : H q = some (.lst ws)) : SOk X.K (upd F q (.lst vs)) O ρ σ (upd H q (.lst vs)) := by
  have eh : hid (UU O ρ) (upd H q (.lst vs)) = hid (UU O ρ) H := by
    funext a
    unfold hid
    by_cases h : UU O ρ a
    · rw [if_pos (.inl h), if_pos (.inl h)]
    · have e : upd H q (.lst vs) a = H a := upd_ne fun e => h (by rw [e]; exact .inl hq)
      rw [e]
  refine ⟨I.len, fun k d h => ?_, fun k p es h => ?_, I.nd, fun a u h => ?_, fun a h => ?_, I.tb.at hl fun a ha => upd_ne ha, fun a u h => ?_⟩
  · rw [eh]; exact I.dat k d h
  · obtain ⟨e1, e2, vs, e3, e4⟩ := I.mt k p es h
    have np : p ≠ q := fun e => I.nO (a := p) ⟨es, List.mem_of_getElem? h⟩ (by rw [e]; exact hq)
    refine ⟨e1, by rw [upd_ne np]; exact e2, vs, by rw [upd_ne np]; exact e3, ?_⟩
    rw [eh]; exact e4
  · by_cases e : a = q
    · subst e
      rw [upd_same] at h ⊢
      exact h
    · rw [upd_ne e] at h ⊢
      exact I.fr a u h
  · by_cases e : a = q
    · subst e
      exact ⟨_, upd_same⟩
    · obtain ⟨u, e1⟩ := I.od a h
      exact ⟨u, by rw [upd_ne e]; exact e1⟩
  · by_cases e : a = q
    · subst e
      rw [upd_same] at h
      cases h
      exact inferInstance
    · rw [upd_ne e] at h
      exact I.ft a u h
/-- the same names with the same data; own lists may have turned -/
def sk : Sl → Sl
  | .mut p _ => .mut p []
  | s => s
def Like (ρ ρ' : Lo) : Prop := ρ'.map sk = ρ.map sk
theorem Like.refl : Like ρ ρ := rfl
theorem Like.symm (l : Like ρ ρ') : Like ρ' ρ := Eq.symm l
theorem Like.trans (l : Like ρ ρ') (k : Like ρ' ρ2) : Like ρ ρ2 := Eq.trans k l
theorem Like.len (l : Like ρ ρ') : ρ'.length = ρ.length := by
  have h := congrArg List.length l
  rw [List.length_map, List.length_map] at h
  exact h
theorem Like.at (l : Like ρ ρ') (k : Nat) : (ρ'[k]?).map sk = (ρ[k]?).map sk := by
  have h := congrArg (·[k]?) l
  simp only [List.getElem?_map] at h
  exact h
theorem Like.dat (l : Like ρ ρ') (k : Nat) (d : D) (h : ρ'[k]? = some (.dat d)) : ρ[k]? = some (.dat d) := by
  have e := l.at k
  rw [h] at e
  cases q : ρ[k]? with
  | none => rw [q] at e; cases e
  | some s =>
    rw [q] at e
    cases s with
    | un => cases e
    | dat d2 => cases e; rfl
    | «mut» p ds => cases e
theorem Like.mt (l : Like ρ ρ') (k : Nat) (p : Addr) (ds : List D) (h : ρ'[k]? = some (.mut p ds)) : ∃ ds', ρ[k]? = some (.mut p ds') := by
  have e := l.at k
  rw [h] at e
  cases q : ρ[k]? with
  | none => rw [q] at e; cases e
  | some s =>
    rw [q] at e
    cases s with
    | un => cases e
    | dat d2 => cases e
    | «mut» p ds => cases e; exact ⟨_, rfl⟩
theorem Like.tm (l : Like ρ ρ') (k : Nat) (p : Addr) (ds : List D) (h : ρ[k]? = some (.mut p ds)) : ∃ ds', ρ'[k]? = some (.mut p ds') := l.symm.mt k p ds h
theorem Like.owns (l : Like ρ ρ') : owns ρ' = owns ρ := funext fun a => propext ⟨fun ⟨es, h⟩ => by
  obtain ⟨k, hk⟩ := List.getElem?_of_mem h
  obtain ⟨es', h'⟩ := l.mt k a es hk
  exact ⟨es', List.mem_of_getElem? h'⟩, fun ⟨es, h⟩ => by
  obtain ⟨k, hk⟩ := List.getElem?_of_mem h
  obtain ⟨es', h'⟩ := l.tm k a es hk
  exact ⟨es', List.mem_of_getElem? h'⟩⟩
theorem Like.noMut {vs : List Nat} (l : Like ρ ρ') (h : noMut ρ vs) : noMut ρ' vs := fun k p ds hk e => by
  obtain ⟨es, e'⟩ := l.mt k p ds e
  exact h k p es hk e'
/-- behind a turn: the def's slots with the own lists as they stand now -/
theorem SOk.back {σ2 : L2.St} {H1 H4 : Hp} (I1 : SOk X.K F O ρ σ H1) (J : SOk X.K F' O ρ2 σ2 H4) (e : Ex (hid (UU O ρ) H1) H4) (l : Like ρ ρ') (hm : ∀ (k : Nat) p es, ρ'[k]? = some (.mut p es) → ρ2[k]? = some (.mut p es)) (hf : Ex F H4) : SOk X.K F O ρ' σ H4 := by
  have sub : ∀ a, UU O ρ' a → UU O ρ2 a := fun a z => z.elim .inl fun ⟨es, h⟩ => .inr (by
    obtain ⟨k, hk⟩ := List.getElem?_of_mem h
    exact ⟨es, List.mem_of_getElem? (hm k a es hk)⟩)
  refine ⟨by rw [l.len]; exact I1.len, fun k d h => ?_, fun k p es h => ?_, fun k k' p es es' h h' => ?_, hf, I1.od, J.tb, I1.ft⟩
  · obtain ⟨v, h1, h2⟩ := I1.dat k d (l.dat k d h)
    refine ⟨v, h1, h2.mono fun a o ha => ?_⟩
    have := nt_hid ha
    obtain ⟨n, _⟩ := of_hid ha
    refine hid_of (fun z => n ?_) (e a o ha)
    unfold UU at z ⊢
    rw [← l.owns]
    exact z
  · obtain ⟨es0, h0⟩ := l.mt k p es h
    obtain ⟨e1, e2, _⟩ := I1.mt k p es0 h0
    obtain ⟨_, _, vs, e3, e4⟩ := J.mt k p es (hm k p es h)
    exact ⟨e1, e2, vs, e3, e4.mono (ex_hid fun a o _ n ha => ⟨fun z => n (sub a z), ha⟩)⟩
  · obtain ⟨es0, h0⟩ := l.mt k p es h
    obtain ⟨es1, h1⟩ := l.mt k' p es' h'
    exact I1.nd k k' p es0 es1 h0 h1
end
end VL
end

section
set_option Elab.async false
set_option linter.all false
set_option maxRecDepth 100000
set_option maxHeartbeats 4000000
namespace VL
open PySem PySem.Spec PyProof.Rows L2
section
variable {X : Cx} {e a b c tg elt iter : Expr} {es ifs : List Expr} {ρ ρ1 ρ2 ρ3 ρ' : Lo} {x y d : D} {pos p p2 : Pos} {F F' : Hp} {O : Addr → Prop} {σ : L2.St} {H H' S T : Hp} {i j : Nat} {n m : Str} {ds es' : List D} {q : Addr} {scope : Scope} {own : List (Str × Nat)}
/-- an expression of a comprehension's block, in any such block -/
def twB (X : Cx) (scope : Scope) (e : Expr) : TE := fun σ H Q => ∀ (s : Shared) (H' : Hp) (C : Addr) (cl : List (Str × Addr)) (fp : List Addr), tw (X.blk s H' scope (compEnvC scope cl C X.env) fp) e σ H Q
def twTB (X : Cx) (scope : Scope) (e : Expr) : TT := fun σ H Q => ∀ (s : Shared) (H' : Hp) (C : Addr) (cl : List (Str × Addr)) (fp : List Addr), twT (X.blk s H' scope (compEnvC scope cl C X.env) fp) e σ H Q
theorem pe_twB {s : Shared} {H' : Hp} {C : Addr} {cl : List (Str × Addr)} {fp : List Addr} : PE (X.blk s H' scope (compEnvC scope cl C X.env) fp) e (twB X scope e) := ⟨fun pins s1 _ _ _ I h => h s H' C cl fp pins s1 I⟩
theorem pt_twB {s : Shared} {H' : Hp} {C : Addr} {cl : List (Str × Addr)} {fp : List Addr} : PT (X.blk s H' scope (compEnvC scope cl C X.env) fp) e (twTB X scope e) := ⟨fun pins s1 _ _ _ I h => h s H' C cl fp pins s1 I⟩
/-- in every block of this scope -/
abbrev InB (X : Cx) (scope : Scope) (P : Cx → Prop) : Prop := ∀ (s : Shared) (H' : Hp) (C : Addr) (cl : List (Str × Addr)) (fp : List Addr), P (X.blk s H' scope (compEnvC scope cl C X.env) fp)
theorem ev_twB (h : InB X scope fun Y => CE Y ρ e d ρ1) (ho : owns ρ1 = owns ρ) : EV X.K (twB X scope e) ρ d ρ1 := ⟨ho, fun F O σ H Q I q s H' C cl fp => (h s H' C cl fp).2 F O σ H Q I q⟩
theorem et_twB {k : Bool} (h : InB X scope fun Y => CT Y ρ e k ρ1) (ho : owns ρ1 = owns ρ) : ET X.K (twTB X scope e) ρ k ρ1 := ⟨ho, fun F O σ H Q I q s H' C cl fp => (h s H' C cl fp).2 F O σ H Q I q⟩
def delH (H : Hp) (q : Addr) : Hp := fun b => if b = q then none else H b
theorem delH_same : delH H q q = none := if_pos rfl
theorem delH_ne {b : Addr} (h : b ≠ q) : delH H q b = H b := if_neg h
theorem upd_delH {o : HO} (h : H q = some o) : upd (delH H q) q o = H := by
  funext b
  by_cases e : b = q
  · subst e; rw [upd_same, h]
  · rw [upd_ne e, delH_ne e]
def orA (O : Addr → Prop) (q : Addr) : Addr → Prop := fun a => O a ∨ a = q
/-- a new hidden object -/
theorem SOk.orNew {o : HO} [t : NT o] (I : SOk X.K F O ρ σ H) (hq : H q = none) : SOk X.K (upd F q o) (orA O q) ρ σ (upd H q o) := by
  have nu := I.nU hq
  have ex : Ex (hid (UU O ρ) H) (hid (UU (orA O q) ρ) (upd H q o)) := ex_hid fun a u _ n h => by
    have nq : a ≠ q := ne_of_none h hq
    exact ⟨fun z => z.elim (fun z => z.elim (fun z => n (.inl z)) nq) fun z => n (.inr z), by rw [upd_ne nq]; exact h⟩
  refine ⟨I.len, fun k d h => ?_, fun k p es h => ?_, I.nd, fun a u h => ?_, fun a h => ?_, I.tb.ex fun a u e => by rw [upd_ne (ne_of_none e hq)]; exact e, fun a u h => ?_⟩
  · obtain ⟨v, e1, e2⟩ := I.dat k d h
    exact ⟨v, e1, e2.mono ex⟩
  · obtain ⟨e1, e2, vs, e3, e4⟩ := I.mt k p es h
    have np : p ≠ q := ne_of_none e3 hq
    exact ⟨e1, by rw [upd_ne np]; exact e2, vs, by rw [upd_ne np]; exact e3, e4.mono ex⟩
  · by_cases e : a = q
    · subst e
      rw [upd_same] at h ⊢
      exact h
    · rw [upd_ne e] at h ⊢
      exact I.fr a u h
  · rcases h with h | h
    · obtain ⟨u, e1⟩ := I.od a h
      by_cases e : a = q
      · subst e; exact ⟨o, upd_same⟩
      · exact ⟨u, by rw [upd_ne e]; exact e1⟩
    · subst h; exact ⟨o, upd_same⟩
  · by_cases e : a = q
    · subst e
      rw [upd_same] at h
      cases h
      exact t
    · rw [upd_ne e] at h
      exact I.ft a u h
/-- .. taken away -/
theorem SOk.orDel {ws : List V} (I : SOk X.K (upd F q (.lst ws)) (orA O q) ρ σ H) (hF : F q = none) (od : ∀ a, O a → ∃ o, F a = some o) : SOk X.K F O ρ σ (delH H q) ∧ ∀ {vs : List V} {ds : List D}, Reps X.K (hid (UU (orA O q) ρ) H) vs ds → Reps X.K (hid (UU O ρ) (delH H q)) vs ds := by
  have ex : Ex (hid (UU (orA O q) ρ) H) (hid (UU O ρ) (delH H q)) := ex_hid fun a u _ n h => by
    have nq : a ≠ q := fun e => n (.inl (.inr e))
    exact ⟨fun z => n (z.elim (fun z => .inl (.inl z)) .inr), by rw [delH_ne nq]; exact h⟩
  refine ⟨⟨I.len, fun k d h => ?_, fun k p es h => ?_, I.nd, fun a u h => ?_, od, I.tb.at (I.fr q _ upd_same) fun a ha => delH_ne ha, fun a u h => I.ft a u (by rw [upd_ne (ne_of_none h hF)]; exact h)⟩, fun r => r.mono ex⟩
  · obtain ⟨v, e1, e2⟩ := I.dat k d h
    exact ⟨v, e1, e2.mono ex⟩
  · obtain ⟨e1, e2, vs, e3, e4⟩ := I.mt k p es h
    have np : p ≠ q := fun e => by
      rw [e, upd_same] at e2
      cases e2
    exact ⟨e1, by rw [upd_ne np] at e2; exact e2, vs, by rw [delH_ne np]; exact e3, e4.mono ex⟩
  · have na : a ≠ q := ne_of_none h hF
    rw [delH_ne na]
    exact I.fr a u (by rw [upd_ne na]; exact h)
theorem Rep.orO {v : V} (r : Rep X.K (hid (UU (orA O q) ρ) H) v d) : Rep X.K (hid (UU O ρ) H) v d := r.mono (ex_hid fun a o _ n h => ⟨fun z => n (z.elim (fun z => .inl (.inl z)) .inr), h⟩)
theorem upd_upd2 {o u : HO} : upd (upd H q o) q u = upd H q u := upd_upd
/-- [elt for tg in iter if ..], by its reading -/
theorem en_lcR {T : Tg} {tt : TT} {te : TE} {wi : TI} {vs : List Nat} (how : owns ρ1 = owns ρ)
    (hw : ∀ F O σ H (R : It → Hp → Prop), SOk X.K F O ρ σ H → (∀ J H1, SOk X.K F O ρ1 σ H1 → WK X.K (VL.sup ρ1 H1) (hid (UU O ρ1) H1) J ds → R J H1) → wi σ H R) (J : Nat → Lo → List D → Prop)
    (hT : ∀ k ∈ T.slots, k ∈ vs) (hn : noMut ρ1 vs) (h0 : J 0 ρ1 [])
    (hs : ∀ (i : Nat) d ρi acc, ds[i]? = some d → Like ρ1 ρi → J i ρi acc → ∃ ρ2 k ρt, Bind T d (wipeL ρi vs) ρ2 ∧ ET X.K tt ρ2 k ρt ∧
      (k = true → ∃ r ρ3 ρ4, EV X.K te ρt r ρ3 ∧ Like ρ1 ρ4 ∧ (∀ (k : Nat) p es, ρ4[k]? = some (.mut p es) → ρ3[k]? = some (.mut p es)) ∧ acc.length < sizeLine ∧ J (i + 1) ρ4 (acc ++ [r])) ∧
      (k = false → ∃ ρ4, Like ρ1 ρ4 ∧ (∀ (k : Nat) p es, ρ4[k]? = some (.mut p es) → ρt[k]? = some (.mut p es)) ∧ J (i + 1) ρ4 acc))
    (hd : ∀ ρn acc, Like ρ1 ρn → J ds.length ρn acc → ρn = ρ' ∧ acc = es') (hl' : owns ρ' = owns ρ1) : EN X.K (tLc wi (gOf X.K T) tt te vs) ρ es' ρ' := by
  refine ⟨hl'.trans how, fun F O σ H Q I q => hw F O σ H _ I fun Jt H1 I1 wk D hD => ?_⟩
  have hS : Ex F (VL.sup ρ1 H1) := I1.le_sup
  have hSD : VL.sup ρ1 H1 D = none := by
    cases z : VL.sup ρ1 H1 D with
    | none => rfl
    | some o =>
      have := hid_ex D o z
      rw [hD] at this
      cases this
  have hT2 : ∀ accV a o, hid (UU O ρ1) H1 a = some o → (upd (VL.sup ρ1 H1) D (.lst accV)) a = some o ∧ ¬ orA O D a := fun accV a o h => by
    have := nt_hid h
    have na : a ≠ D := ne_of_none (hid_ex a o h) hD
    obtain ⟨n, h'⟩ := of_hid h
    exact ⟨by rw [upd_ne na]; exact T_S ρ1 H1 a o h, fun z => z.elim (fun z => n (.inl z)) na⟩
  have exS : ∀ accV, Ex (VL.sup ρ1 H1) (upd (VL.sup ρ1 H1) D (.lst accV)) := fun accV a o h => by rw [upd_ne (ne_of_none h hSD)]; exact h
  -- the words of the walk
  let Pv : Nat → Hp → Prop := fun i H => ∃ ρi acc accV, Like ρ1 ρi ∧ J i ρi acc ∧ SOk X.K (upd (VL.sup ρ1 H1) D (.lst accV)) (orA O D) ρi σ H ∧ Reps X.K (hid (UU (orA O D) ρi) H) accV acc
  have I1D : SOk X.K (upd (VL.sup ρ1 H1) D (.lst [])) (orA O D) ρ1 σ (upd H1 D (.lst [])) := I1.sup.orNew hD
  refine ⟨fun i m H => m = ds.length - i ∧ i ≤ ds.length ∧ Pv i H, ⟨ds.length, by simp, Nat.zero_le _, ρ1, [], [], Like.refl, h0, I1D, .nil⟩, ?_⟩
  rintro i m Hi ⟨rfl, hle, ρi, acc, accV, lk, hJ, Ii, racc⟩
  have frS : Ex (VL.sup ρ1 H1) Hi := (exS accV).trans Ii.fr
  by_cases hlt : i < ds.length
  · refine .inr ⟨wk.go i Hi hlt frS, Pv (i + 1), fun H' h => ⟨ds.length - (i + 1), by omega, rfl, hlt, h⟩, fun v H' yy => ?_⟩
    -- what is walked
    obtain ⟨d, hd', hyld⟩ := wk.yld i Hi v H' hlt frS yy
    have subT : Ex (hid (UU O ρ1) H1) (hid (UU (orA O D) ρi) Hi) := fun a o h => by
      have := nt_hid h
      obtain ⟨h1, h2⟩ := hT2 accV a o h
      exact hid_of (fun z => z.elim h2 fun z => by rw [Ii.own z] at h1; cases h1) (Ii.fr a o h1)
    have got : SOk X.K (upd (VL.sup ρ1 H1) D (.lst accV)) (orA O D) ρi σ H' ∧ Rep X.K (hid (UU (orA O D) ρi) H') v d ∧ Ex (hid (UU (orA O D) ρi) Hi) (hid (UU (orA O D) ρi) H') := by
      rcases hyld with ⟨rfl, r⟩ | ⟨p, ws, es, hp, rfl, rfl, rfl, r⟩
      · exact ⟨Ii, r.mono subT, Ex.refl _⟩
      · exact ⟨Ii.new hp, .tup (.of (Ii.newHid hp)) ((r.mono subT).mono (ex_new hp)), ex_new hp⟩
    obtain ⟨I2, rv, exY⟩ := got
    obtain ⟨ρ2, k, ρt, hb, htt, hyes, hno⟩ := hs i d ρi acc hd' lk hJ
    have nm := lk.noMut hn
    have Iw : SOk X.K (upd (VL.sup ρ1 H1) D (.lst accV)) (orA O D) (wipeL ρi vs) (wipe σ vs) H' := I2.wipe nm
    have rw' : Rep X.K (hid (UU (orA O D) (wipeL ρi vs)) H') v d := rv.mono (ex_hid fun a o _ n h => ⟨fun z => n (z.elim .inl fun ⟨es, z⟩ => .inr (by
      obtain ⟨kk, hk⟩ := List.getElem?_of_mem z
      rcases wipeL_get hk with ⟨z, _⟩ | ⟨_, h2⟩
      · cases z
      · exact ⟨es, List.mem_of_getElem? h2⟩)), h⟩)
    -- back to the def's slots: the accumulated list is seen as before
    have seen : ∀ {ρ4 ρ5 : Lo} {σ5 : L2.St} {H5 : Hp}, Like ρ1 ρ4 → (∀ (k : Nat) p es, ρ4[k]? = some (.mut p es) → ρ5[k]? = some (.mut p es)) → SOk X.K (VL.sup (wipeL ρi vs) H') (orA O D) ρ5 σ5 H5 →
        SOk X.K (upd (VL.sup ρ1 H1) D (.lst accV)) (orA O D) ρ4 σ H5 ∧ Reps X.K (hid (UU (orA O D) ρ4) H5) accV acc := fun {ρ4 ρ5 σ5 H5} l4 hm J5 => by
      have ow : owns ρ4 = owns ρi := l4.owns.trans lk.owns.symm
      have ex5 : Ex (hid (UU (orA O D) ρi) H') H5 := fun a o h => by
        have := nt_hid h
        obtain ⟨n, h'⟩ := of_hid h
        refine J5.fr a o (hid_of (fun ⟨es, z⟩ => n (.inr ?_)) h')
        obtain ⟨kk, hk⟩ := List.getElem?_of_mem z
        rcases wipeL_get hk with ⟨z, _⟩ | ⟨_, h2⟩
        · cases z
        · exact ⟨es, List.mem_of_getElem? h2⟩
      have hf5 : Ex (upd (VL.sup ρ1 H1) D (.lst accV)) H5 := fun a o h => have := Iw.ft a o h; J5.fr a o (hid_of (fun z => by rw [Iw.own z] at h; cases h) (Iw.fr a o h))
      have lk4 : Like ρi ρ4 := lk.symm.trans l4
      have J6 := SOk.back I2 J5 ex5 lk4 hm hf5
      refine ⟨J6, (racc.mono exY).mono fun a o h => ?_⟩
      have := nt_hid h
      obtain ⟨n, _⟩ := of_hid h
      refine hid_of (fun z => n ?_) (ex5 a o h)
      unfold UU at z ⊢
      rw [← ow]
      exact z
    have app : ∀ {ρ3 ρ4 : Lo} {r : VL.D} {vy : V} {H5 : Hp}, Like ρ1 ρ4 → (∀ (k : Nat) p es, ρ4[k]? = some (.mut p es) → ρ3[k]? = some (.mut p es)) → ∀ {σ5 : L2.St}, SOk X.K (VL.sup (wipeL ρi vs) H') (orA O D) ρ3 σ5 H5 → Rep X.K (hid (UU (orA O D) ρ3) H5) vy r → acc.length < sizeLine → J (i + 1) ρ4 (acc ++ [r]) →
        ∃ accW, H5 D = some (.lst accW) ∧ accW.length < sizeLine ∧ Pv (i + 1) (upd H5 D (.lst (accW ++ [vy]))) := fun {ρ3 ρ4 r vy H5} l4 hm {σ5} J5 ry hz jj => by
      obtain ⟨K1, K2⟩ := seen l4 hm J5
      refine ⟨accV, K1.fr D _ upd_same, by rw [racc.length]; exact hz, ρ4, acc ++ [r], accV ++ [vy], l4, jj, ?_, ?_⟩
      · have z := K1.under (q := D) (vs := accV ++ [vy]) (.inr rfl) (K1.fr D _ upd_same)
        rw [upd_upd] at z
        exact z
      · have eh : Ex (hid (UU (orA O D) ρ4) H5) (hid (UU (orA O D) ρ4) (upd H5 D (.lst (accV ++ [vy])))) := ex_hid fun a o _ n h => ⟨n, by rw [upd_ne (fun e => n (.inl (.inr e)))]; exact h⟩
        have sub : ∀ a, UU (orA O D) ρ4 a → UU (orA O D) ρ3 a := fun a z => z.elim .inl fun ⟨es, h⟩ => .inr (by
          obtain ⟨kk, hk⟩ := List.getElem?_of_mem h
          exact ⟨es, List.mem_of_getElem? (hm kk a es hk)⟩)
        exact (K2.mono eh).append (.one ((ry.mono (ex_hid fun a o _ n h => ⟨fun z => n (sub a z), h⟩)).mono eh))
    refine hb.run Iw.sup rw' fun σ2 L hk _ => ⟨wipe_eq (L.len.trans ?_) fun kk hkk => (hk kk fun z => hkk (hT kk z)).trans (wipe_get hkk), ?_⟩
    · rw [hb.len2, wipeL_len]
      exact I2.len.symm
    · refine htt.2 (VL.sup (wipeL ρi vs) H') (orA O D) σ2 H' _ L fun H3 L3 => ?_
      cases k with
      | true =>
        rw [if_pos rfl]
        obtain ⟨r, ρ3, ρ4, hev, l4, hm, hz, jj⟩ := hyes rfl
        exact hev.2 (VL.sup (wipeL ρi vs) H') (orA O D) σ2 H3 _ L3 fun vy H5 L5 ry => app l4 hm L5 ry hz jj
      | false =>
        rw [if_neg Bool.false_ne_true]
        obtain ⟨ρ4, l4, hm, jj⟩ := hno rfl
        obtain ⟨K1, K2⟩ := seen l4 hm L3
        exact ⟨ρ4, acc, accV, l4, jj, K1, K2⟩
  · have e : i = ds.length := by omega
    subst e
    refine .inl ⟨wk.stop Hi frS, ?_⟩
    obtain ⟨rfl, rfl⟩ := hd ρi acc lk hJ
    obtain ⟨K1, K2⟩ := Ii.orDel hSD I1.sup.od
    have hHD : Hi D = some (.lst accV) := Ii.fr D _ upd_same
    have qq := q D accV (delH Hi D) (K1.weak hS I1.od) delH_same (K2 racc)
    rw [upd_delH hHD] at qq
    exact qq
/-- a comprehension: as a value, stored under a name -/
structure CL (X : Cx) (ρ : Lo) (elt tg iter : Expr) (ifs : List Expr) (scope : Scope) (es : List D) (ρ' : Lo) : Prop where
  ex : ∃ tl : TE, (∀ pos, PE X (.ListComp elt [⟨tg, iter, ifs, 0⟩] scope pos) tl) ∧
    (∀ (i : Nat) (y : Str) (py pos spos : Pos), X.N[i]? = some y → X.env.scope.names.lookup y = some .local → swapsWith (.ListComp elt [⟨tg, iter, ifs, 0⟩] scope pos) (some (.Name y py)) spos.line X.env = pure true →
      PS X (.Assign [.Name y py] (.ListComp elt [⟨tg, iter, ifs, 0⟩] scope pos) spos) (tAsg tl (gName i))) ∧ EN X.K tl ρ es ρ'
theorem CL.cn (h : CL X ρ elt tg iter ifs scope es' ρ') : CN X ρ (.ListComp elt [⟨tg, iter, ifs, 0⟩] scope pos) es' ρ' := let ⟨_, h1, _, h3⟩ := h.ex; .of (h1 pos) h3
theorem CL.eq {es2 : List D} (h : CL X ρ elt tg iter ifs scope es' ρ') (e : es' = es2) : CL X ρ elt tg iter ifs scope es2 ρ' := e ▸ h
theorem l_lcG {T : Tg} {tt : TT} (J : Nat → Lo → List D → Prop) (B1 : X.calm = true) (B2 : X.N.Nodup) (hi : CI X ρ tg iter ds ρ1) (ok : BlkOk X.N X.env.scope scope own)
    (hg : InB X scope fun Y => PG Y tg (gOf X.K T)) (ht : InB X scope fun Y => PTs Y ifs tt) (hT : ∀ k ∈ T.slots, k ∈ own.map (·.2)) (hn : noMut ρ1 (own.map (·.2))) (h0 : J 0 ρ1 [])
    (hs : ∀ (i : Nat) d ρi acc, ds[i]? = some d → Like ρ1 ρi → J i ρi acc → ∃ ρ2 k ρt, Bind T d (wipeL ρi (own.map (·.2))) ρ2 ∧ ET X.K tt ρ2 k ρt ∧
      (k = true → ∃ r ρ3 ρ4, EV X.K (twB X scope elt) ρt r ρ3 ∧ Like ρ1 ρ4 ∧ (∀ (k : Nat) p es, ρ4[k]? = some (.mut p es) → ρ3[k]? = some (.mut p es)) ∧ acc.length < sizeLine ∧ J (i + 1) ρ4 (acc ++ [r])) ∧
      (k = false → ∃ ρ4, Like ρ1 ρ4 ∧ (∀ (k : Nat) p es, ρ4[k]? = some (.mut p es) → ρt[k]? = some (.mut p es)) ∧ J (i + 1) ρ4 acc))
    (hd : ∀ ρn acc, Like ρ1 ρn → J ds.length ρn acc → ρn = ρ' ∧ acc = es') (hl' : owns ρ' = owns ρ1) (hfs : ∀ x, foldedSetIterable iter X.env x = pure x := by intro _; rfl) :
    CL X ρ elt tg iter ifs scope es' ρ' := by
  obtain ⟨wi, hpi, how, hw⟩ := hi.ex
  exact ⟨_, fun pos => pe_lc B1 B2 hpi ok hg ht (fun s H C cl fp => pe_twB) hfs, fun i y py pos spos hy hyl hsw => ps_setLc B1 B2 hy hyl hsw hpi ok hg ht (fun s H C cl fp => pe_twB) hfs, en_lcR how hw J hT hn h0 hs hd hl'⟩
end
end VL
end

section
set_option Elab.async false
set_option linter.all false
set_option maxRecDepth 100000
set_option maxHeartbeats 4000000
namespace VL
open PySem PySem.Spec PyProof.Rows L2
section
variable {X : Cx} {e a b c tg elt iter : Expr} {es ifs : List Expr} {ρ ρ1 ρ2 ρ3 ρ' : Lo} {x y z d : D} {pos p p2 : Pos} {F F' : Hp} {O : Addr → Prop} {σ : L2.St} {H H' S T : Hp} {i j : Nat} {n m : Str} {ds es' : List D} {q : Addr} {scope : Scope} {own : List (Str × Nat)} {K : PySem.W.Frag} {W : WE} {rest : List Stmt}
theorem owns_setM (hi : ρ[i]? = some (.mut q ds)) : owns (ρ.set i (.mut q es')) = owns ρ := funext fun a => propext ⟨fun ⟨u, h⟩ => by
  rcases List.mem_or_eq_of_mem_set h with h | h
  · exact ⟨u, h⟩
  · cases h
    exact ⟨ds, List.mem_of_getElem? hi⟩, fun ⟨u, h⟩ => by
  obtain ⟨k, hk⟩ := List.getElem?_of_mem h
  have hl : i < ρ.length := (List.getElem?_eq_some_iff.mp hi).1
  by_cases e : i = k
  · subst e
    rw [hi] at hk
    cases hk
    exact ⟨es', List.mem_of_getElem? (i := i) (List.getElem?_set_self hl)⟩
  · exact ⟨u, List.mem_of_getElem? (i := k) (by rw [List.getElem?_set_ne e]; exact hk)⟩⟩
/-- the own list of slot i turned -/
theorem SOk.mutUpd {vs : List V} (I : SOk K F O ρ σ H) (hi : ρ[i]? = some (.mut q ds)) (r : Reps K (hid (UU O ρ) H) vs es') : SOk K F O (ρ.set i (.mut q es')) σ (upd H q (.lst vs)) := by
  have hl : i < ρ.length := (List.getElem?_eq_some_iff.mp hi).1
  have ho : owns ρ q := ⟨ds, List.mem_of_getElem? hi⟩
  have eu : UU O (ρ.set i (.mut q es')) = UU O ρ := funext fun a => by unfold UU; rw [owns_setM hi]
  have eh : hid (UU O (ρ.set i (.mut q es'))) (upd H q (.lst vs)) = hid (UU O ρ) H := by
    rw [eu]
    funext a
    unfold hid
    by_cases h : UU O ρ a
    · rw [if_pos (.inl h), if_pos (.inl h)]
    · have e : upd H q (.lst vs) a = H a := upd_ne fun e => h (by rw [e]; exact .inr ho)
      rw [e]
  obtain ⟨_, _, vs0, hq0, _⟩ := I.mt i q ds hi
  refine ⟨by rw [List.length_set]; exact I.len, fun k d h => ?_, fun k p es h => ?_, fun k l p es es1 h h' => ?_, fun a o h => ?_, I.od, I.tb.at hq0 fun a ha => upd_ne ha, I.ft⟩
  · rw [eh]
    by_cases e : i = k
    · subst e
      rw [List.getElem?_set_self hl] at h
      cases h
    · rw [List.getElem?_set_ne e] at h
      exact I.dat k d h
  · rw [eh]
    by_cases e : i = k
    · subst e
      rw [List.getElem?_set_self hl] at h
      cases h
      obtain ⟨h1, h2, _⟩ := I.mt i q ds hi
      exact ⟨h1, h2, vs, upd_same, r⟩
    · rw [List.getElem?_set_ne e] at h
      obtain ⟨h1, h2, ws, h3, h4⟩ := I.mt k p es h
      have np : p ≠ q := fun z => by
        subst z
        exact e (I.nd i k p ds es hi h)
      exact ⟨h1, h2, ws, by rw [upd_ne np]; exact h3, h4⟩
  · have back : ∀ {k : Nat} {p : Addr} {es : List D}, (ρ.set i (.mut q es'))[k]? = some (.mut p es) → ∃ es0, ρ[k]? = some (.mut p es0) := fun {k p es} h => by
      by_cases e : i = k
      · subst e
        rw [List.getElem?_set_self hl] at h
        cases h
        exact ⟨ds, hi⟩
      · rw [List.getElem?_set_ne e] at h
        exact ⟨es, h⟩
    obtain ⟨e0, h0⟩ := back h
    obtain ⟨e1, h1⟩ := back h'
    exact I.nd k l p e0 e1 h0 h1
  · have na : a ≠ q := fun z => by
      subst z
      rw [I.own ho] at h
      cases h
    rw [upd_ne na]
    exact I.fr a o h

/-! found.append(e); found[i] = e; found[i], x = .., .. -/
theorem css_append (i : Nat) {apos cpos xp : Pos} (he : CE X ρ e d ρ1) (hi : ρ[i]? = some (.mut q ds)) (hi1 : ρ1[i]? = some (.mut q es')) (hz : es'.length < sizeLine) (k : CSs X (ρ1.set i (.mut q (es' ++ [d]))) rest W) (hN : X.N[i]? = some n := by rfl) (hv : Vis X.env.scope n := by first | exact Or.inl rfl | exact Or.inr (Or.inl rfl) | exact Or.inr (Or.inr rfl))
    (h1 : (n == ("__debug__" : Str)) = false := by decide) (h2 : (n == ("__classdict__" : Str)) = false := by decide)
    (hbase : attributeBase (.Name n xp) "append" X.env (eval (.Name n xp) X.env) = eval (.Name n xp) X.env := by rfl)
    (hfew : ((backTo cpos (starEach (e :: []) X.env)).all (fun x => !x.1) && (backToKw cpos (keywordEach [] X.env)).all (fun x => x.1.isSome) && decide ((e :: []).length + ([] : List Keyword).length + (if ([] : List Keyword).isEmpty then 0 else 1) < 30)) = true := by rfl)
    (hline : (apos.endLine == cpos.line) = true := by rfl) (hs : starEach (e :: []) X.env = (false, eval e X.env) :: starEach [] X.env := by rfl) (hplain : (backTo cpos (starEach [] X.env)).any (·.1) = false := by rfl)
    (hsw : swapsWith (.Call (.Attribute (.Name n xp) "append" apos) [e] [] cpos) none pos.line X.env = pure false := by rfl) :
    CSs X ρ (.Expr (.Call (.Attribute (.Name n xp) "append" apos) [e] [] cpos) pos :: rest) W :=
  css_of (ps_expr (pe_bm PySem.F.plainAttrs_list PySem.F.slot_list_append PySem.F.type_list_append mt_append (pe_var hN hv h1 h2) pa_tw hbase hfew hline hs hplain) hsw) fun F O σ H E I r => by
    obtain ⟨e1, _, vs, e2, _⟩ := I.mt i q ds hi
    refine ⟨.ref q, e1, .inl ⟨rfl, vs, .of e2⟩, (d_cons he d_nil hs).2 F O σ H _ I fun ws H1 J rw' => ?_⟩
    obtain ⟨v, rfl, rv⟩ := one_of rw'
    obtain ⟨_, _, vs1, e3, r3⟩ := J.mt i q es' hi1
    refine ⟨q, vs1, v, rfl, rfl, e3, by rw [r3.length]; exact hz, r.nx _ _ _ k ?_⟩
    exact J.mutUpd hi1 (r3.append (.one rv))
/-- found[k] = e -/
theorem css_setIx (i : Nat) {xp : Pos} {ix : Expr} {k : Int} {j : Nat} (B : Bdn X) (he : CE X ρ e d ρ1) (hx : CE X ρ1 ix (.int k) ρ1) (hi1 : ρ1[i]? = some (.mut q es')) (hj : ixN es'.length k = some j) (kk : CSs X (ρ1.set i (.mut q (es'.set j d))) rest W) (hN : X.N[i]? = some n := by rfl) (hv : Vis X.env.scope n := by first | exact Or.inl rfl | exact Or.inr (Or.inl rfl) | exact Or.inr (Or.inr rfl))
    (h1 : (n == ("__debug__" : Str)) = false := by decide) (h2 : (n == ("__classdict__" : Str)) = false := by decide)
    (ha : ∀ v, assign (.Subscript (.Name n xp) ix p2) X.env v = (do
      let ov ← holding [v] (eval (.Name n xp) X.env)
      let iv ← holding [v, ov] (eval ix X.env)
      standAt p2
      holding [v, ov, iv] (setItem ov iv v)
      release [v, ov, iv] []) := by intro _; rfl)
    (hs : swapsWithSole [.Subscript (.Name n xp) ix p2] e pos.line X.env = pure false := by rfl) (hw : swappedStores [.Subscript (.Name n xp) ix p2] e X.env = pure none := by rfl)
    (hh : (assignEach [.Subscript (.Name n xp) ix p2] X.env).map (·.2) = [assign (.Subscript (.Name n xp) ix p2) X.env] := by rfl) :
    CSs X ρ (.Assign [.Subscript (.Name n xp) ix p2] e pos :: rest) W :=
  css_of (ps_asg pe_tw (pg_sub (pe_var hN hv h1 h2) pe_tw set_list ha) hs hw hh) fun F O σ H E I r => he.2 F O σ H _ I fun v H1 J rv => by
    obtain ⟨e1, _, _⟩ := J.mt i q es' hi1
    refine ⟨.ref q, e1, hx.2 _ O σ H1 _ J.sup fun w H2 L rw' => ?_⟩
    cases rw'
    have L' := L.weak J.le_sup J.od
    obtain ⟨_, _, vs1, e3, r3⟩ := L'.mt i q es' hi1
    refine ⟨q, vs1, k, j, rfl, rfl, e3, by rw [r3.length]; exact hj, r.nx _ _ _ kk ?_⟩
    exact L'.mutUpd hi1 (r3.set j (SOk.keep rfl L rv))
/-- found[k], x = e (a pair) -/
theorem css_setIxNm (i l : Nat) {xp yp : Pos} {ix : Expr} {k : Int} {j : Nat} {kt} {pt : Pos} (B : Bd X) (he : CE X ρ e (.tup [x, y]) ρ1) (hx : CE X ρ1 ix (.int k) ρ1) (hi1 : ρ1[i]? = some (.mut q es')) (hj : ixN es'.length k = some j) (kk : CSs X ((ρ1.set i (.mut q (es'.set j x))).set l (.dat y)) rest W)
    (hN : X.N[i]? = some n := by rfl) (hv : Vis X.env.scope n := by first | exact Or.inl rfl | exact Or.inr (Or.inl rfl) | exact Or.inr (Or.inr rfl)) (hl : X.N[l]? = some m := by rfl) (hxl : Loc X.env.scope m := by first | exact Or.inl rfl | exact Or.inr rfl)
    (hf : X.fn m = true ∨ X.env.scope.names.lookup m = some .local := by first | exact .inl rfl | exact .inr rfl)
    (h1 : (n == ("__debug__" : Str)) = false := by decide) (h2 : (n == ("__classdict__" : Str)) = false := by decide)
    (ha : ∀ v, assign (.Subscript (.Name n xp) ix p2) X.env v = (do
      let ov ← holding [v] (eval (.Name n xp) X.env)
      let iv ← holding [v, ov] (eval ix X.env)
      standAt p2
      holding [v, ov, iv] (setItem ov iv v)
      release [v, ov, iv] []) := by intro _; rfl)
    (hs : swapsWithSole [.Tuple [.Subscript (.Name n xp) ix p2, .Name m yp] kt pt] e pos.line X.env = pure false := by rfl) (hw : swappedStores [.Tuple [.Subscript (.Name n xp) ix p2, .Name m yp] kt pt] e X.env = pure none := by rfl)
    (hh : (assignEach [.Tuple [.Subscript (.Name n xp) ix p2, .Name m yp] kt pt] X.env).map (·.2) = [assign (.Tuple [.Subscript (.Name n xp) ix p2, .Name m yp] kt pt) X.env] := by rfl)
    (g1 : (assignEach [.Subscript (.Name n xp) ix p2, .Name m yp] X.env).map (·.2) = assign (.Subscript (.Name n xp) ix p2) X.env :: (assignEach [.Name m yp] X.env).map (·.2) := by rfl)
    (g2 : (assignEach [.Name m yp] X.env).map (·.2) = assign (.Name m yp) X.env :: (assignEach [] X.env).map (·.2) := by rfl)
    (g3 : (assignEach [.Subscript (.Name n xp) ix p2, .Name m yp] X.env).length = 2 := by rfl) (g4 : (assignEach [.Subscript (.Name n xp) ix p2, .Name m yp] X.env).findIdx? (·.1) = none := by rfl) :
    CSs X ρ (.Assign [.Tuple [.Subscript (.Name n xp) ix p2, .Name m yp] kt pt] e pos :: rest) W :=
  css_of (ps_asg pe_tw (pg_tup B.calm (pgs_cons (pg_sub (pe_var hN hv h1 h2) pe_tw set_list ha) (pgs_cons (pg_name (i := l) B.nd hl hxl hf) pgs_nil g2) g1) g3 g4) hs hw hh) fun F O σ H E I r => he.2 F O σ H _ I fun v H1 J rv => by
    cases rv with
    | @tup a vs _ h3 rs =>
      obtain ⟨u, w, rfl, r1, r2⟩ := two_of rs
      obtain ⟨e1, _, _⟩ := J.mt i q es' hi1
      refine ⟨a, [u, w], rfl, hid_ex.t h3, rfl, u, [w], rfl, .ref q, e1, hx.2 _ O σ H1 _ J.sup fun w' H2 L rw' => ?_⟩
      cases rw'
      have L' := L.weak J.le_sup J.od
      obtain ⟨_, _, vs1, e3, r3⟩ := L'.mt i q es' hi1
      refine ⟨q, vs1, k, j, rfl, rfl, e3, by rw [r3.length]; exact hj, w, [], rfl, rfl, r.nx _ _ _ kk ?_⟩
      have M := L'.mutUpd hi1 (r3.set j (SOk.keep rfl L r1))
      refine M.set ((SOk.keep rfl L r2).mono (ex_hid fun a o _ nn h => ?_))
      have ho : owns ρ1 q := ⟨es', List.mem_of_getElem? hi1⟩
      refine ⟨fun z => nn ?_, by rw [upd_ne fun e => nn (by rw [e]; exact .inr ho)]; exact h⟩
      unfold UU at z ⊢
      rw [owns_setM hi1] at z
      exact z
/-- x += e, ints -/
theorem css_augAdd (i : Nat) {k l : Int} (B : Bdn X) (hx0 : ρ[i]? = some (.dat (.int k))) (he : CE X ρ e (.int l) ρ1) (kk : CSs X (ρ1.set i (.dat (.int (k + l)))) rest W) (hi : X.N[i]? = some n := by rfl) (hx : Loc X.env.scope n := by first | exact Or.inl rfl | exact Or.inr rfl)
    (hf : X.fn n = true ∨ X.env.scope.names.lookup n = some .local := by first | exact .inl rfl | exact .inr rfl) : CSs X ρ (.AugAssign (.Name n p) .Add e pos :: rest) W :=
  css_of (ps_aug B.nd hi hx pe_tw ip_add hf) fun F O σ H E I r => by
    obtain ⟨v, e1, rv⟩ := I.dat i _ hx0
    cases rv
    refine ⟨_, e1, he.2 F O σ H _ I fun w H1 J rw' => ?_⟩
    cases rw'
    exact ⟨k, l, rfl, rfl, r.nx _ _ _ kk (J.set (.int _))⟩
/-- a, b, c = x, y, z: three local names -/
theorem css_par3 (i j l : Nat) {m2 : Str} {px py pz pt pt2 : Pos} {kt k2} (B : Bd X) (ha : CD X ρ [a, b, c] [x, y, z] ρ1) (k : CSs X (((ρ1.set i (.dat x)).set j (.dat y)).set l (.dat z)) rest W) (hij : i ≠ j := by decide) (hil : i ≠ l := by decide) (hjl : j ≠ l := by decide)
    (hi : X.N[i]? = some n := by rfl) (hj : X.N[j]? = some m := by rfl) (hl : X.N[l]? = some m2 := by rfl)
    (hx : X.env.scope.names.lookup n = some .local := by rfl) (hy : X.env.scope.names.lookup m = some .local := by rfl) (hz : X.env.scope.names.lookup m2 = some .local := by rfl)
    (hw : swappedStores [.Tuple [.Name n px, .Name m py, .Name m2 pz] kt pt] (.Tuple [a, b, c] k2 pt2) X.env = pure (some [n, m, m2]) := by rfl)
    (hs : swapsWithSole [.Tuple [.Name n px, .Name m py, .Name m2 pz] kt pt] (.Tuple [a, b, c] k2 pt2) pos.line X.env = pure false := by rfl) : CSs X ρ (.Assign [.Tuple [.Name n px, .Name m py, .Name m2 pz] kt pt] (.Tuple [a, b, c] k2 pt2) pos :: rest) W :=
  css_of (ps_par3 B.calm B.nd hi hj hl hij hil hjl hx hy hz pa_tw hw hs) fun F O σ H E I r => ha.2 F O σ H _ I fun vs H1 J rv => by
    obtain ⟨v, w, u, rfl, r1, r2, r3⟩ := three_of rv
    have ex : ∀ {ρ : Lo} {i : Nat} {d : D}, Ex (hid (UU O ρ) H1) (hid (UU O (ρ.set i (.dat d))) H1) := fun {ρ i d} => ex_hid fun a o _ nn h => ⟨fun z => nn (UU_set datNe z), h⟩
    refine ⟨v, w, u, rfl, r.nx _ _ _ k (((J.set r1).set (r2.mono ex)).set ((r3.mono ex).mono ex))⟩

/-! ### calls that turn an own list -/
/-- what a call wants of its arguments: the own list of a slot first, data behind -/
theorem argsM_ok {ws : List V} {cs : List V} (I : SOk K F O ρ σ H) (hi : ρ[i]? = some (.mut q es')) (rs : Reps K (hid (UU O ρ) H) ws ds) : SOk K (VL.sup (.mut q es' :: ds.map .dat) H) (fun a => UU O ρ a ∧ a ≠ q) (.mut q es' :: ds.map .dat) ((V.ref q :: ws).map some) H := by
  have ow : ∀ a, owns (.mut q es' :: ds.map .dat) a ↔ a = q := fun a => ⟨fun ⟨u, h⟩ => by
    rcases List.mem_cons.mp h with h | h
    · cases h; rfl
    · exact absurd ⟨u, h⟩ owns_dats, fun e => ⟨es', by rw [e]; exact List.mem_cons_self⟩⟩
  have ho : UU O ρ q := .inr ⟨es', List.mem_of_getElem? hi⟩
  have eu : ∀ a, UU O ρ a ↔ UU (fun a => UU O ρ a ∧ a ≠ q) (.mut q es' :: ds.map .dat) a := fun a => ⟨fun z => by
    by_cases e : a = q
    · exact .inr ((ow a).mpr e)
    · exact .inl ⟨z, e⟩, fun z => z.elim (·.1) fun z => by rw [(ow a).mp z]; exact ho⟩
  have eh : hid (UU (fun a => UU O ρ a ∧ a ≠ q) (.mut q es' :: ds.map .dat)) H = hid (UU O ρ) H := (hid_congr eu).symm
  obtain ⟨h1, h2, vs, h3, h4⟩ := I.mt i q es' hi
  refine ⟨?_, fun k d h => ?_, fun k p es h => ?_, fun k l p es es1 h h' => ?_, hid_ex, fun a ha => ?_, I.tb, fun _ _ h => nt_hid h⟩
  · rw [List.length_map, List.length_cons, List.length_cons, List.length_map, rs.length]
  · cases k with
    | zero => cases h
    | succ k =>
      rw [List.getElem?_cons_succ, List.getElem?_map] at h
      cases hq : ds[k]? with
      | none => rw [hq] at h; cases h
      | some d' =>
        rw [hq] at h
        cases h
        obtain ⟨v, e1, e2⟩ := rs.get hq
        refine ⟨v, by rw [List.map_cons, List.getElem?_cons_succ, List.getElem?_map, e1]; rfl, ?_⟩
        rw [eh]
        exact e2
  · cases k with
    | zero =>
      cases h
      refine ⟨rfl, ?_, vs, h3, by rw [eh]; exact h4⟩
      unfold VL.sup hid
      rw [if_pos (.inl ((ow q).mpr rfl))]
    | succ k =>
      rw [List.getElem?_cons_succ] at h
      exact absurd ⟨es, List.mem_of_getElem? h⟩ owns_dats
  · have z0 : ∀ {k : Nat} {p : Addr} {es : List D}, (Sl.mut q es' :: ds.map .dat)[k]? = some (.mut p es) → k = 0 := fun {k p es} h => by
      cases k with
      | zero => rfl
      | succ k =>
        rw [List.getElem?_cons_succ] at h
        exact absurd ⟨es, List.mem_of_getElem? h⟩ owns_dats
    rw [z0 h, z0 h']
  · obtain ⟨u, e, t⟩ := I.odU a ha.1
    exact ⟨u, hid_of (fun z => ha.2 ((ow a).mp z)) e⟩
theorem backM {ws : List V} {H1 : Hp} {cs : List D} (I : SOk K F O ρ σ H) (hi : ρ[i]? = some (.mut q es')) (J : SOk K (VL.sup (.mut q es' :: ds.map .dat) H) (fun a => UU O ρ a ∧ a ≠ q) (.mut q cs :: ds.map .dat) ((V.ref q :: ws).map some) H1) :
    SOk K F O (ρ.set i (.mut q cs)) σ H1 ∧ ∀ {v : V} {d : D}, Rep K (hid (UU (fun a => UU O ρ a ∧ a ≠ q) (.mut q cs :: ds.map .dat)) H1) v d → Rep K (hid (UU O (ρ.set i (.mut q cs))) H1) v d := by
  have ow : ∀ (es' : List D) a, owns (.mut q es' :: ds.map .dat) a ↔ a = q := fun es' a => ⟨fun ⟨u, h⟩ => by
    rcases List.mem_cons.mp h with h | h
    · cases h; rfl
    · exact absurd ⟨u, h⟩ owns_dats, fun e => ⟨es', by rw [e]; exact List.mem_cons_self⟩⟩
  have ho : UU O ρ q := .inr ⟨es', List.mem_of_getElem? hi⟩
  have eu1 : UU O (ρ.set i (.mut q cs)) = UU O ρ := funext fun a => by unfold UU; rw [owns_setM hi]
  have eh : hid (UU (fun a => UU O ρ a ∧ a ≠ q) (.mut q cs :: ds.map .dat)) H1 = hid (UU O (ρ.set i (.mut q cs))) H1 := by
    rw [eu1]
    refine hid_congr fun a => ⟨fun z => z.elim (·.1) fun z => by rw [(ow cs a).mp z]; exact ho, fun z => ?_⟩
    by_cases e : a = q
    · exact .inr ((ow cs a).mpr e)
    · exact .inl ⟨z, e⟩
  have ex : ∀ a o, NT o → a ≠ q → H a = some o → H1 a = some o := fun a o _ ne h => J.fr a o (hid_of (fun z => ne ((ow es' a).mp z)) h)
  have hl : i < ρ.length := (List.getElem?_eq_some_iff.mp hi).1
  obtain ⟨_, _, vs1, j3, j4⟩ := J.mt 0 q cs rfl
  have exh : Ex (hid (UU O ρ) H) (hid (UU O (ρ.set i (.mut q cs))) H1) := by
    rw [eu1]
    exact ex_hid fun a o t n h => ⟨n, ex a o t (fun e => n (by rw [e]; exact ho)) h⟩
  refine ⟨⟨by rw [List.length_set]; exact I.len, fun k d h => ?_, fun k p es h => ?_, fun k l p es es1 h h' => ?_, fun a o h => ?_, I.od, J.tb, I.ft⟩, fun {v d} r => by rw [← eh]; exact r⟩
  · by_cases e : i = k
    · subst e
      rw [List.getElem?_set_self hl] at h
      cases h
    · rw [List.getElem?_set_ne e] at h
      obtain ⟨v, e1, e2⟩ := I.dat k d h
      exact ⟨v, e1, e2.mono exh⟩
  · by_cases e : i = k
    · subst e
      rw [List.getElem?_set_self hl] at h
      cases h
      obtain ⟨h1, h2, _⟩ := I.mt i q es' hi
      exact ⟨h1, h2, vs1, j3, by rw [← eh]; exact j4⟩
    · rw [List.getElem?_set_ne e] at h
      obtain ⟨h1, h2, vs, h3, h4⟩ := I.mt k p es h
      have np : p ≠ q := fun z => by
        subst z
        exact e (I.nd i k p es' es hi h)
      exact ⟨h1, h2, vs, ex p _ inferInstance np h3, h4.mono exh⟩
  · have back : ∀ {k : Nat} {p : Addr} {es : List D}, (ρ.set i (.mut q cs))[k]? = some (.mut p es) → ∃ es0, ρ[k]? = some (.mut p es0) := fun {k p es} h => by
      by_cases e : i = k
      · subst e
        rw [List.getElem?_set_self hl] at h
        cases h
        exact ⟨es', hi⟩
      · rw [List.getElem?_set_ne e] at h
        exact ⟨es, h⟩
    obtain ⟨e0, h0⟩ := back h
    obtain ⟨e1, h1⟩ := back h'
    exact I.nd k l p e0 e1 h0 h1
  · have na : a ≠ q := fun z => by
      subst z
      have h1 := (I.mt i a es' hi).2.1
      rw [h1] at h
      cases h
    exact ex a o (I.ft a o h) na (I.fr a o h)
variable {k : Nat} {g : Str} {Sp : Spec}
/-- f(hand, e, ..): the own list of slot i turns -/
theorem c_callM (i : Nat) {cs : List D} {xp : Pos} (Fn : FnV X.prog X.w X.K X.mg X.base k g Sp) (hr : Room k X.A) (hi : ρ[i]? = some (.mut q ds)) (ha : CD X ρ es es' ρ1) {cs1 : List D} (hi1 : ρ1[i]? = some (.mut q cs1))
    (hS : ∀ R : Res → Lo → Prop, R (.ok d) (.mut q cs :: es'.map .dat) → Sp (.mut q cs1 :: es'.map .dat) R) (hg : Gl X g := by rfl) (hN : X.N[i]? = some n := by rfl) (hv : Vis X.env.scope n := by first | exact Or.inl rfl | exact Or.inr (Or.inl rfl) | exact Or.inr (Or.inr rfl))
    (h1 : (n == ("__debug__" : Str)) = false := by decide) (h2 : (n == ("__classdict__" : Str)) = false := by decide) (hdb : (g == ("__debug__" : Str)) = false := by decide)
    (he : starEach (.Name n xp :: es) X.env = (false, eval (.Name n xp) X.env) :: starEach es X.env := by rfl) (hpl : (backTo pos (starEach es X.env)).any (·.1) = false := by rfl) :
    CE X ρ (.Call (.Name g p) (.Name n xp :: es) [] pos) d (ρ1.set i (.mut q cs)) := by
  obtain ⟨f, fd, ps, hF, hm, hk, hb⟩ := Fn.ex
  refine .of (pe_call hF hr hg hm hk hb .nil passLN (pa_cons (pe_var hN hv h1 h2) pa_tw he) hdb he hpl) ⟨(owns_setM hi1).trans ha.1, fun F O σ H Q I qq => ?_⟩
  obtain ⟨e1, _, _⟩ := I.mt i q ds hi
  refine ⟨.ref q, e1, ha.2 F O σ H _ I fun ws H1 J rs => ?_⟩
  refine ⟨fun a => UU O ρ1 a ∧ a ≠ q, .mut q cs1 :: es'.map .dat, ?_, ?_⟩
  · rw [List.append_nil]
    exact argsM_ok (cs := []) J hi1 rs
  · refine hS _ fun _ H' L v rv => ?_
    rw [List.append_nil] at L
    obtain ⟨M1, M2⟩ := backM J hi1 L
    exact qq v H' M1 (M2 rv)
/-- .. with all its outcomes -/
theorem q_callM (i : Nat) {xp : Pos} {R : Res → Lo → Prop} (Fn : FnV X.prog X.w X.K X.mg X.base k g Sp) (hr : Room k X.A) (hi : ρ[i]? = some (.mut q ds)) (ha : CD X ρ es es' ρ1) {cs1 : List D} (hi1 : ρ1[i]? = some (.mut q cs1))
    (hS : Sp (.mut q cs1 :: es'.map .dat) fun r ρa => ∃ cs, ρa = .mut q cs :: es'.map .dat ∧ R r (ρ1.set i (.mut q cs))) (hg : Gl X g := by rfl) (hN : X.N[i]? = some n := by rfl) (hv : Vis X.env.scope n := by first | exact Or.inl rfl | exact Or.inr (Or.inl rfl) | exact Or.inr (Or.inr rfl))
    (h1 : (n == ("__debug__" : Str)) = false := by decide) (h2 : (n == ("__classdict__" : Str)) = false := by decide) (hdb : (g == ("__debug__" : Str)) = false := by decide)
    (he : starEach (.Name n xp :: es) X.env = (false, eval (.Name n xp) X.env) :: starEach es X.env := by rfl) (hpl : (backTo pos (starEach es X.env)).any (·.1) = false := by rfl) :
    CQ X ρ (.Call (.Name g p) (.Name n xp :: es) [] pos) R := fun F O σ H Q Wx I tk q1 q2 pins s Iv => by
  obtain ⟨f, fd, ps, hF, hm, hk, hb⟩ := Fn.ex
  refine (pe_callS hF hr hg hm hk hb (fun σ => L2N.passAt tk σ) (pa_cons (pe_var hN hv h1 h2) pa_tw he) hdb he hpl).run pins s σ H Q Iv ?_
  obtain ⟨e1, _, _⟩ := I.mt i q ds hi
  refine ⟨.ref q, e1, ha.2 F O σ H _ I fun ws H1 J rs => ?_⟩
  refine ⟨fun a => UU O ρ1 a ∧ a ≠ q, .mut q cs1 :: es'.map .dat, argsM_ok (cs := []) J hi1 rs, Fn.mono _ _ _ (fun r ρa ⟨cs, ea, hR⟩ => ?_) hS⟩
  subst ea
  intro _ H' L
  obtain ⟨M1, M2⟩ := backM J hi1 L
  cases r with
  | ok d => exact fun v rv => q1 d _ v H' hR ((owns_setM hi1).trans ha.1) M1 (M2 rv)
  | error er =>
    refine fun cls dd ⟨h5, h6⟩ => q2 er _ H' cls dd hR M1 ⟨h5, ?_⟩
    rcases h6 with h6 | ⟨aa, fv, h7, h8, h9⟩
    · exact .inl h6
    · have M3 : ∀ {u : V} {d : D}, Rep X.K (hid (UU (fun a => UU O ρ1 a ∧ a ≠ q) (.mut q cs :: es'.map .dat)) H') u d → Rep X.K (hid (UU O (ρ1.set i (.mut q cs))) H') u d := M2
      have M4 : ∀ {fvs : List (Str × V)} {fs : List (Str × D)}, RepF X.K (hid (UU (fun a => UU O ρ1 a ∧ a ≠ q) (.mut q cs :: es'.map .dat)) H') fvs fs → RepF X.K (hid (UU O (ρ1.set i (.mut q cs))) H') fvs fs := fun {fvs fs} h => by
        induction fvs generalizing fs with
        | nil => cases h; exact .nil
        | cons hd tl ih => cases h with
          | cons r1 r2 => exact .cons (M3 r1) (ih r2)
      refine .inr ⟨aa, fv, h7, ?_, M4 h9⟩
      have := nt_hid h8
      obtain ⟨n1, n2⟩ := of_hid h8
      refine hid_of (fun z => n1 ?_) n2
      unfold UU at z
      rw [owns_setM hi1] at z
      by_cases e : aa = q
      · exact .inr ⟨cs, by rw [e]; exact List.mem_cons_self⟩
      · exact .inl ⟨z, e⟩
/-- f(e, ..) on data with all its outcomes -/
theorem q_call {R : Res → Lo → Prop} (Fn : FnV X.prog X.w X.K X.mg X.base k g Sp) (hr : Room k X.A) (ha : CD X ρ (e :: es) ds ρ1) (hS : Sp (ds.map .dat) fun r ρa => ρa = ds.map .dat ∧ R r ρ1) (hg : Gl X g := by rfl) (hdb : (g == ("__debug__" : Str)) = false := by decide)
    (he : starEach (e :: es) X.env = (false, eval e X.env) :: starEach es X.env := by rfl) (hpl : (backTo pos (starEach es X.env)).any (·.1) = false := by rfl) : CQ X ρ (.Call (.Name g p) (e :: es) [] pos) R := fun F O σ H Q Wx I tk q1 q2 pins s Iv => by
  obtain ⟨f, fd, ps, hF, hm, hk, hb⟩ := Fn.ex
  refine (pe_callS hF hr hg hm hk hb (fun σ => L2N.passAt tk σ) pa_tw hdb he hpl).run pins s σ H Q Iv ?_
  refine ha.2 F O σ H _ I fun vs H1 J rs => ?_
  have eu : ∀ a, UU (UU O ρ1) (ds.map .dat) a ↔ UU O ρ1 a := fun a => ⟨fun z => z.elim id fun z => absurd z owns_dats, .inl⟩
  refine ⟨UU O ρ1, ds.map .dat, args_ok rs J.odU J.tb, Fn.mono _ _ _ (fun r ρa ⟨ea, hR⟩ => ?_) hS⟩
  subst ea
  intro _ H' L
  have M := J.ext (ex_dats L) L.tb
  cases r with
  | ok d => exact fun v rv => q1 d _ v H' hR ha.1 M (by rw [← hid_congr eu]; exact rv)
  | error er => exact fun cls dd h => q2 er _ H' cls dd hR M (by rw [← hid_congr eu]; exact h)
end
end VL
end

section
set_option Elab.async false
set_option linter.all false
set_option maxRecDepth 100000
set_option maxHeartbeats 4000000
namespace VL
open PySem PySem.Spec PyProof.Rows L2

/-! ### a def by its body -/
section
variable {P : Program} {w : World} {K : PySem.W.Frag} {mg : Str → Option Value} {base : Heap} {k : Nat} {x : Str} {st : Stmt} {f : Addr} {fd : FuncData} {N ps : List Str}
abbrev cx (P : Program) (w : World) (K : PySem.W.Frag) (mg : Str → Option Value) (base : Heap) (N : List Str) (x : Str) (st : Stmt) (f : Addr) (cdv : Value) (A : Around) (outer : List Env) (s : Shared) (H : Hp) (E : XK) : Cx := cxOf (L2N.CX P w) P w K mg base N x (defScope st) f cdv A outer s H E
theorem bd_cx {cdv : Value} {A : Around} {outer : List Env} {s : Shared} {H : Hp} {E : XK} (nd : N.Nodup) : Bd (cx P w K mg base N x st f cdv A outer s H E) := ⟨rfl, nd, passes_of rfl⟩
theorem takes_cx {cdv : Value} {A : Around} {outer : List Env} {s : Shared} {H : Hp} {E : XK} : L2N.Takes (cx P w K mg base N x st f cdv A outer s H E) (fun cls d _ H => E cls d H) := L2N.takes_of rfl rfl rfl rfl
theorem SOk.more {F : Hp} {O : Addr → Prop} {ρ : Lo} {σ : L2.St} {H : Hp} (I : SOk K F O ρ σ H) (m : Nat) : SOk K F O (ρ ++ List.replicate m .un) (σ ++ List.replicate m none) H := by
  have un : ∀ {i : Nat} {s : Sl}, (ρ ++ List.replicate m .un)[i]? = some s → s ≠ .un → ρ[i]? = some s := fun {i s} h hs => by
    by_cases hi : i < ρ.length
    · rw [List.getElem?_append_left hi] at h
      exact h
    · rw [List.getElem?_append_right (by omega)] at h
      have := List.mem_of_getElem? h
      exact absurd (List.eq_of_mem_replicate this) hs
  have left : ∀ {i : Nat} {v : Option V}, σ[i]? = some v → (σ ++ List.replicate m none)[i]? = some v := fun {i v} h => by
    rw [List.getElem?_append_left (List.getElem?_eq_some_iff.mp h).1]
    exact h
  have ow : owns (ρ ++ List.replicate m .un) = owns ρ := funext fun a => propext ⟨fun ⟨u, h⟩ => by
    obtain ⟨i, hi⟩ := List.getElem?_of_mem h
    exact ⟨u, List.mem_of_getElem? (un hi (by intro z; cases z))⟩, fun ⟨u, h⟩ => ⟨u, List.mem_append_left _ h⟩⟩
  have eu : UU O (ρ ++ List.replicate m .un) = UU O ρ := funext fun a => by unfold UU; rw [ow]
  refine ⟨by rw [List.length_append, List.length_append, List.length_replicate, List.length_replicate, I.len], fun i d h => ?_, fun i p ds h => ?_, fun i j p ds ds' h h' => ?_, I.fr, I.od, I.tb, I.ft⟩
  · obtain ⟨v, h1, h2⟩ := I.dat i d (un h (by intro z; cases z))
    rw [eu]
    exact ⟨v, left h1, h2⟩
  · obtain ⟨h1, h2, vs, h3, h4⟩ := I.mt i p ds (un h (by intro z; cases z))
    rw [eu]
    exact ⟨left h1, h2, vs, h3, h4⟩
  · exact I.nd i j p ds ds' (un h (by intro z; cases z)) (un h' (by intro z; cases z))
theorem start_eq {vs : List V} {ps : List Str} (h : vs.length = ps.length) : L2.start N vs = vs.map some ++ List.replicate (N.length - ps.length) none := by unfold L2.start; rw [h]
/-- data in, a result out -/
theorem fn_pure {A : List D → Res → Prop} (Fu : Fun K x x st f fd) (Sc : FnScope N ps (defScope st)) (hb : Binds K fd ps []) (hm : mg x = some (.ref f)) (hlen : ∀ ds r, A ds r → ds.length = ps.length)
    (hbody : ∀ (cdv : Value) (A' : Around) (outer : List Env) (s : Shared) (H : Hp) (E : XK), Room k (cx P w K mg base N x st f cdv A' outer s H E).A → Bd (cx P w K mg base N x st f cdv A' outer s H E) → ∀ ds r, A ds r →
      CSs (cx P w K mg base N x st f cdv A' outer s H E) (ds.map .dat ++ List.replicate (N.length - ps.length) .un) (defBody st) { nx := fun _ => r = .ok .non, rt := fun d _ => r = .ok d, er := fun e _ => r = .error e }) : FnV P w K mg base (k + 1) x (detS A) := by
  refine ⟨detS_mono, f, fd, ps, Fun.okXN Fu Sc (fun vs H Q E h => ?_) (fun cdv A' outer s H vs Q E hr h => ⟨_, pss_tw, ?_⟩), hm, Fu.kp, hb⟩
  · obtain ⟨O, ρ, I, ds, r, rfl, a, _⟩ := h
    have := I.len
    rw [List.length_map, List.length_map] at this
    rw [this]
    exact hlen ds r a
  · obtain ⟨O, ρ, I, ds, r, rfl, a, po⟩ := h
    have hl : vs.length = ps.length := by
      have := I.len
      rw [List.length_map, List.length_map] at this
      rw [this]
      exact hlen ds r a
    intro pins s1 Iv
    rw [start_eq hl] at Iv
    have post := po rfl
    have exH : ExN H (VL.sup (ds.map .dat) H) := fun a o _ h => hid_of owns_dats h
    have sub : ∀ {ρ' : Lo} {H' : Hp} a, UU O (ds.map .dat) a → UU O ρ' a := fun a z => z.elim .inl fun z => absurd z owns_dats
    refine hbody cdv A' outer s H E hr (bd_cx Sc.nd) ds r a (VL.sup (ds.map .dat) H) O _ H _ (I.more _) ⟨fun ρ' σ' H' h J => ?_, fun d ρ' σ' H' v h J rv => ?_, fun _ _ _ h _ => h.elim, fun _ _ _ h _ => h.elim, _, takes_cx, fun er ρ' σ' H' cls dd h J re => ?_⟩ pins s1 Iv
    · subst h
      exact post H' (I.ext (exH.trans J.fr.nt) J.tb) .non .non
    · subst h
      exact post H' (I.ext (exH.trans J.fr.nt) J.tb) v (rv.mono (ex_hid fun a o _ n h => ⟨fun z => n (sub (H' := H') a z), h⟩))
    · subst h
      obtain ⟨e1, e2⟩ := re
      refine post H' (I.ext (exH.trans J.fr.nt) J.tb) cls dd ⟨e1, ?_⟩
      rcases e2 with e2 | ⟨aa, fv, h7, h8, h9⟩
      · exact .inl e2
      · have ex := ex_hid (U := UU O ρ') (U' := UU O (ds.map .dat)) (H := H') (H' := H') fun a o _ n h => ⟨fun z => n (sub (H' := H') a z), h⟩
        exact .inr ⟨aa, fv, h7, ex _ _ h8, RepF.mono ex h9⟩
/-- an own list first, which turns; data behind -/
def mutS (A : List D → List D → (Res → List D → Prop) → Prop) : Spec := fun ρ R => ∃ q cs ds, ρ = .mut q cs :: ds.map .dat ∧ A cs ds fun r cs' => R r (.mut q cs' :: ds.map .dat)
theorem fn_mutC {A : List D → List D → (Res → List D → Prop) → Prop} (mo : ∀ cs ds (R R' : Res → List D → Prop), (∀ r c, R r c → R' r c) → A cs ds R → A cs ds R') (Fu : Fun K x x st f fd) (Sc : FnScope N ps (defScope st)) (hb : Binds K fd ps []) (hm : mg x = some (.ref f)) (hlen : ∀ cs ds R, A cs ds R → ds.length + 1 = ps.length)
    (hbody : ∀ (cdv : Value), fd.code = cdv → ∀ (A' : Around) (outer : List Env) (s : Shared) (H : Hp) (E : XK), Room k (cx P w K mg base N x st f cdv A' outer s H E).A → Bd (cx P w K mg base N x st f cdv A' outer s H E) → ∀ q cs ds R, A cs ds R →
      CSs (cx P w K mg base N x st f cdv A' outer s H E) (.mut q cs :: ds.map .dat ++ List.replicate (N.length - ps.length) .un) (defBody st)
        { nx := fun ρ' => ∃ cs', ρ'[0]? = some (.mut q cs') ∧ R (.ok .non) cs', rt := fun d ρ' => ∃ cs', ρ'[0]? = some (.mut q cs') ∧ R (.ok d) cs', er := fun e ρ' => ∃ cs', ρ'[0]? = some (.mut q cs') ∧ R (.error e) cs' }) : FnV P w K mg base (k + 1) x (mutS A) := by
  refine ⟨fun ρ R R' h ⟨q, cs, ds, e, a⟩ => ⟨q, cs, ds, e, mo _ _ _ _ (fun r c hr => h _ _ hr) a⟩, f, fd, ps, Fun.okXC Fu Sc (fun vs H Q E h => ?_) (fun cdv hcd A' outer s H vs Q E hr h => ⟨_, pss_tw, ?_⟩), hm, Fu.kp, hb⟩
  · obtain ⟨O, ρ, I, q, cs, ds, rfl, a⟩ := h
    have := I.len
    rw [List.length_map, List.length_cons, List.length_map] at this
    rw [this]
    exact hlen _ _ _ a
  · obtain ⟨O, ρ, I, q, cs, ds, rfl, a⟩ := h
    have hl : vs.length = ps.length := by
      have := I.len
      rw [List.length_map, List.length_cons, List.length_map] at this
      rw [this]
      exact hlen _ _ _ a
    intro pins s1 Iv
    rw [start_eq hl] at Iv
    have ow : ∀ (cs : List D) a, owns (.mut q cs :: ds.map .dat) a ↔ a = q := fun cs a => ⟨fun ⟨u, h⟩ => by
      rcases List.mem_cons.mp h with h | h
      · cases h; rfl
      · exact absurd ⟨u, h⟩ owns_dats, fun e => ⟨cs, by rw [e]; exact List.mem_cons_self⟩⟩
    have owe : ∀ cs', owns (.mut q cs' :: ds.map .dat) = owns (.mut q cs :: ds.map .dat) := fun cs' => funext fun a => propext ((ow cs' a).trans (ow cs a).symm)
    -- behind the body: the arguments, the list as it stands
    have fin : ∀ {ρ' : Lo} {σ' : L2.St} {H' : Hp} {cs' : List D}, ρ'[0]? = some (.mut q cs') → SOk K (VL.sup (.mut q cs :: ds.map .dat) H) O ρ' σ' H' →
        SOk K (VL.sup (.mut q cs :: ds.map .dat) H) O (.mut q cs' :: ds.map .dat) (vs.map some) H' ∧ Ex (hid (UU O ρ') H') (hid (UU O (.mut q cs' :: ds.map .dat)) H') := fun {ρ' σ' H' cs'} h0 J => by
      have sub : ∀ a, UU O (.mut q cs' :: ds.map .dat) a → UU O ρ' a := fun a z => z.elim .inl fun z => .inr ⟨cs', by rw [(ow cs' a).mp z]; exact List.mem_of_getElem? h0⟩
      have ex : Ex (hid (UU O ρ') H') (hid (UU O (.mut q cs' :: ds.map .dat)) H') := ex_hid fun a o _ n h => ⟨fun z => n (sub a z), h⟩
      have exA : Ex (hid (UU O (.mut q cs :: ds.map .dat)) H) (hid (UU O (.mut q cs' :: ds.map .dat)) H') := ex_hid fun a o _ n h => by
        refine ⟨fun z => n (z.elim .inl fun z => .inr (by rw [← owe cs']; exact z)), J.fr a o (hid_of (fun z => n (.inr z)) h)⟩
      obtain ⟨j1, j2, ws, j3, j4⟩ := J.mt 0 q cs' h0
      refine ⟨⟨by rw [I.len]; rfl, fun i d h => ?_, fun i p es h => ?_, fun i j p es es' h h' => ?_, J.fr, I.od, J.tb, I.ft⟩, ex⟩
      · cases i with
        | zero => cases h
        | succ i =>
          obtain ⟨v, e1, e2⟩ := I.dat (i + 1) d h
          exact ⟨v, e1, e2.mono exA⟩
      · cases i with
        | zero =>
          cases h
          obtain ⟨i1, i2, _⟩ := I.mt 0 q cs rfl
          exact ⟨i1, i2, ws, j3, j4.mono ex⟩
        | succ i => exact absurd ⟨es, List.mem_of_getElem? (show (ds.map Sl.dat)[i]? = some (.mut p es) from h)⟩ owns_dats
      · have z0 : ∀ {i : Nat} {p : Addr} {es : List D}, (Sl.mut q cs' :: ds.map .dat)[i]? = some (.mut p es) → i = 0 := fun {i p es} h => by
          cases i with
          | zero => rfl
          | succ i => exact absurd ⟨es, List.mem_of_getElem? (show (ds.map Sl.dat)[i]? = some (.mut p es) from h)⟩ owns_dats
        rw [z0 h, z0 h']
    refine hbody cdv hcd A' outer s H E hr (bd_cx Sc.nd) q cs ds _ a (VL.sup (.mut q cs :: ds.map .dat) H) O _ H _ (I.more _) ⟨fun ρ' σ' H' h J => ?_, fun d ρ' σ' H' v h J rv => ?_, fun _ _ _ h _ => h.elim, fun _ _ _ h _ => h.elim, _, takes_cx, fun er ρ' σ' H' cls dd h J re => ?_⟩ pins s1 Iv
    · obtain ⟨cs', h0, po⟩ := h
      obtain ⟨M, _⟩ := fin h0 J
      exact po (owe cs') H' M .non .non
    · obtain ⟨cs', h0, po⟩ := h
      obtain ⟨M, ex⟩ := fin h0 J
      exact po (owe cs') H' M v (rv.mono ex)
    · obtain ⟨cs', h0, po⟩ := h
      obtain ⟨M, ex⟩ := fin h0 J
      obtain ⟨e1, e2⟩ := re
      refine po (owe cs') H' M cls dd ⟨e1, ?_⟩
      rcases e2 with e2 | ⟨aa, fv, h7, h8, h9⟩
      · exact .inl e2
      · exact .inr ⟨aa, fv, h7, ex _ _ h8, RepF.mono ex h9⟩
theorem fn_mut {A : List D → List D → (Res → List D → Prop) → Prop} (mo : ∀ cs ds (R R' : Res → List D → Prop), (∀ r c, R r c → R' r c) → A cs ds R → A cs ds R') (Fu : Fun K x x st f fd) (Sc : FnScope N ps (defScope st)) (hb : Binds K fd ps []) (hm : mg x = some (.ref f)) (hlen : ∀ cs ds R, A cs ds R → ds.length + 1 = ps.length)
    (hbody : ∀ (cdv : Value) (A' : Around) (outer : List Env) (s : Shared) (H : Hp) (E : XK), Room k (cx P w K mg base N x st f cdv A' outer s H E).A → Bd (cx P w K mg base N x st f cdv A' outer s H E) → ∀ q cs ds R, A cs ds R →
      CSs (cx P w K mg base N x st f cdv A' outer s H E) (.mut q cs :: ds.map .dat ++ List.replicate (N.length - ps.length) .un) (defBody st)
        { nx := fun ρ' => ∃ cs', ρ'[0]? = some (.mut q cs') ∧ R (.ok .non) cs', rt := fun d ρ' => ∃ cs', ρ'[0]? = some (.mut q cs') ∧ R (.ok d) cs', er := fun e ρ' => ∃ cs', ρ'[0]? = some (.mut q cs') ∧ R (.error e) cs' }) : FnV P w K mg base (k + 1) x (mutS A) :=
  fn_mutC mo Fu Sc hb hm hlen fun cdv _ A' outer s H E => hbody cdv A' outer s H E
end

/-! ### errors raised -/
section
variable {X : Cx} {e : Expr} {ρ ρ1 : Lo} {d : D} {pos p : Pos} {x f : Str} {C fI : Addr} {W : WE} {rest : List Stmt} {k : Nat}
/-- what the written part says of an own error class without __init__ -/
structure Xc (X : Cx) (x : Str) (C : Addr) : Prop where
  g : X.mg x = some (.ref C)
  q : PySem.W.excIn X.K C [.type "ValueError", .type "Exception", .type "BaseException", .type "object"] "ValueError.__new__" = true
  kp : PySem.W.keepIn X.K (.ref C) = true
  exC : PySem.W.subIn X.K (.ref C) (.type "BaseException") = some true
  tyC : PySem.W.typeIn X.K (.ref C) = some (.type "type")
theorem pmk_own0 (T : Xc X x C) (hg : Gl X x) (hdb : (x == ("__debug__" : Str)) = false := by decide) : L2N.PMk X (.Call (.Name x p) [] [] pos) (fun _ H Q => Q (.ref C) none H) := by
  intro pins s σ H Q I h
  refine wpAny_Call_Name_kw (ld_glob I hg T.g ?_ hdb)
  refine PySem.W.callWith_K0 I.kIn T.kp ?_
  show wpAny _ _ (call (.ref C) []) _ _ _
  obtain ⟨bm, N, nm, qn, bs, hdct, sn, sub, ab, col, dd, k0, k1, k2, k3, k5, mN, hC, hN, hni, T'⟩ := exc_obj I.kIn T.q
  refine wpAny_call_exc_subT PySem.F.excBase_ValueError T' hC hN hni (fun h' e hm => ?_) (Nat.zero_le _)
  exact L2N.mk_of I hm (raises_own T.exC T.tyC) h (I.hok.gone hm.new)
theorem css_raise0 {rp : Pos} (B : Bd X) (T : Xc X x C) (h : W.er ⟨C, []⟩ ρ) (hg : Gl X x := by rfl) (hdb : (x == ("__debug__" : Str)) = false := by decide) : CSs X ρ (.Raise (some (.Call (.Name x p) [] [] pos)) none rp :: rest) W := by
  refine css_cons fun F O σ H E I r pins s J => ?_
  obtain ⟨Wx, t, q⟩ := r.er
  exact (L2N.ps_raise B.calm t (pmk_own0 T hg hdb)).run pins s σ H E J (q _ ρ σ H _ _ h I ⟨rfl, .inl ⟨rfl, rfl⟩⟩)
/-- of one whose __init__ stores its one argument in the field f -/
def spInit (K : PySem.W.Frag) (f : Str) : Sp := fun vs H Q E => ∃ a C v, vs = [.ref a, v] ∧ OexC K C ∧ PySem.W.findIn K (.ref C) f = some none ∧ H a = some (exo a C none) ∧ ∀ dx, H dx = none → dx ≠ a → Q .non (upd (upd H dx (exd dx [(f, v)])) a (exo a C (some dx)))
structure Xi (X : Cx) (x f : Str) (C : Addr) : Prop where
  g : X.mg x = some (.ref C)
  o : OexC X.K C
  nf : PySem.W.findIn X.K (.ref C) f = some none
  ex : ∃ fI fd ps, PySem.W.findIn X.K (.ref C) "__init__" = some (some (.ref fI)) ∧ PySem.W.typeIn X.K (.ref fI) = some (.type "function") ∧ FnOk X.prog X.w X.K X.mg X.base (L2N.CX X.prog X.w) 1 fI fd ps (spInit X.K f) ∧ Binds X.K fd ps []
theorem css_raise1 {rp : Pos} (B : Bd X) (T : Xi X x f C) (hr : Room 2 X.A) (he : CE X ρ e d ρ1) (h : W.er ⟨C, [(f, d)]⟩ ρ1) (hg : Gl X x := by rfl) (hdb : (x == ("__debug__" : Str)) = false := by decide)
    (hs : starEach (e :: []) X.env = (false, eval e X.env) :: starEach [] X.env := by rfl) (hpl : (backTo pos (starEach [] X.env)).any (·.1) = false := by rfl) : CSs X ρ (.Raise (some (.Call (.Name x p) [e] [] pos)) none rp :: rest) W := by
  refine css_cons fun F O σ H E I r pins s J => ?_
  obtain ⟨Wx, t, q⟩ := r.er
  obtain ⟨fI, fd, ps, h1, h2, h3, h4⟩ := T.ex
  refine (L2N.ps_raise B.calm t (pmk_oexN T.o h1 h2 h3 hr h4 .nil passLN hg T.g pa_tw hdb hs hpl)).run pins s σ H E J ?_
  refine (d_cons he d_nil hs).2 F O σ H _ I fun vs H1 L rs => ?_
  obtain ⟨v, rfl, rv⟩ := one_of rs
  refine ⟨(show 1 ≤ 1000 from by decide), fun a ha => ?_⟩
  refine ⟨a, C, v, rfl, T.o, T.nf, upd_same, fun dx hdx hne => ⟨rfl, dx, [(f, v)], upd_same, ?_, ?_, ?_⟩⟩
  · rw [upd_ne hne, upd_same]
  · rw [upd_ne hne] at hdx
    exact hdx
  · have hdx' : H1 dx = none := by
      rw [upd_ne hne] at hdx
      exact hdx
    have eh : upd (L2.del (upd (upd (upd H1 a (exo a C none)) dx (exd dx [(f, v)])) a (exo a C (some dx))) a) dx (.xd [(f, v)]) = upd H1 dx (.xd [(f, v)]) := by
      funext b
      by_cases e1 : b = dx
      · subst e1
        rw [upd_same, upd_same]
      · rw [upd_ne e1, upd_ne e1]
        by_cases e2 : b = a
        · subst e2
          rw [L2.del_same, ha]
        · rw [L2.del_ne e2, upd_ne e2, upd_ne e1, upd_ne e2]
    rw [eh]
    exact q _ ρ1 σ _ _ _ h (L.new hdx') ⟨rfl, .inr ⟨dx, [(f, v)], rfl, L.newHid hdx', .cons (rv.mono (ex_new hdx')) .nil⟩⟩
end
/-- such an __init__ -/
theorem ok_init {P : Program} {w : World} {K : PySem.W.Frag} {mg : Str → Option Value} {base : Heap} {qual f g : Str} {st : Stmt} {fI : Addr} {fd : FuncData} (Fu : Fun K "__init__" qual st fI fd) (Sc : FnScope ([("self" : Str), g] : List Str) ([("self" : Str), g] : List Str) (defScope st))
    (hbody : ∀ X : Cx, X.N = [("self" : Str), g] → X.env.scope = defScope st → PSs X (defBody st) (tOst X.K f (tVar 0) (tVar 1))) : FnOk P w K mg base (L2N.CX P w) 1 fI fd [("self" : Str), g] (spInit K f) := by
  refine Fun.okXN Fu Sc (fun vs H Q E h => ?_) (fun cdv A' outer s H vs Q E hr h => ⟨_, hbody _ rfl rfl, ?_⟩)
  · obtain ⟨a, C, v, rfl, _⟩ := h
    rfl
  · obtain ⟨a, C, v, rfl, h1, h2, h3, h4⟩ := h
    exact ⟨v, rfl, .ref a, rfl, a, C, rfl, h1, h2, .inl ⟨h3, fun dx n ne => h4 dx n ne⟩⟩
end VL
end

section
set_option Elab.async false
set_option linter.all false
set_option maxRecDepth 100000
set_option maxHeartbeats 4000000
namespace VL
open PySem PySem.Spec PyProof.Rows L2
open AutoSeq1 (wpAny_loadPart')

/-! ### enumerate of a tuple -/
theorem meets_enumerate_newT (l : Addr) (items : Array Value) :
    Meets (Builtin.«enumerate.__new__» ⟨[.type "enumerate", .ref l], []⟩) (fun _ R s => s.heap.IsTuple l items ∧
      R (.ok (.ret (.ref (s.heap.push { cls := .type "tuple_iterator", data := .fields #[.ref l, .int 0 0] }).objs.size)))
        { s with heap := (s.heap.push { cls := .type "tuple_iterator", data := .fields #[.ref l, .int 0 0] }).push { cls := .type "enumerate", data := .fields #[.none, .bool false, .ref s.heap.objs.size, rawInt 0, .none, .none] } }) :=
  .of_wp fun prog w A R s h => by
    obtain ⟨hp, g, d, tk, os⟩ := s; obtain ⟨hl, h⟩ := h
    have hsub := sub_enumerate
    have hL : Heap.IsTuple (Shared.heap ⟨hp, g, d, tk, os⟩) l items := hl
    wp_walk using wpAny_pyIter_tuple hL
    refine wpAny_stack_any fun st => wpAny_pure ?_
    split
    · rename_i c _ _ _ _ _
      cases (c == Value.type "enumerate")
      · wp_walk using wpAny_pyIter_tuple hL
        exact ⟨_, rfl, h⟩
      · wp_walk using wpAny_pyIter_tuple hL
        exact ⟨_, rfl, h⟩
    · wp_walk using wpAny_pyIter_tuple hL
      exact ⟨_, rfl, h⟩
section
variable {prog : Program} {w : World} {A : Around} {E : Value → Shared → Prop} {s : Shared}
theorem call_enumerate_tuple {l : Addr} {items : Array Value} {Q : Value → Shared → Prop} (hL : s.heap.IsTuple l items)
    (h : ∀ h', IsEnum h' (s.heap.objs.size + 1) s.heap.objs.size 0 .none → h'.IsTupleIter s.heap.objs.size l 0 → h'.objs.size = s.heap.objs.size + 2 →
      (∀ b o, s.heap.get? b = some o → h'.get? b = some o) → Q (.ref (s.heap.objs.size + 1)) { s with heap := h' }) :
    wpAny (model prog w) A (call (.type "enumerate") [.ref l]) Q E s := by
  refine callType_new F.called_enumerate (by decide) (F.typeCall_enumerate_1 _) (F.newCall_enumerate_1 _) (fun obj => F.args_object_init_2 obj _) F.entry_enumerate_new
    (meets_enumerate_newT l items) ⟨hL, ?_⟩
  have hz : (s.heap.push { cls := .type "tuple_iterator", data := .fields #[.ref l, .int 0 0] }).objs.size = s.heap.objs.size + 1 := Heap.size_push ..
  show _ ∧ _
  rw [hz]
  have he : IsEnum ((s.heap.push { cls := .type "tuple_iterator", data := .fields #[.ref l, .int 0 0] }).push
      { cls := .type "enumerate", data := .fields #[.none, .bool false, .ref s.heap.objs.size, rawInt 0, .none, .none] }) (s.heap.objs.size + 1) s.heap.objs.size 0 .none := by
    have := Heap.get?_push_size (s.heap.push { cls := .type "tuple_iterator", data := .fields #[.ref l, .int 0 0] })
      (o := { cls := .type "enumerate", data := .fields #[.none, .bool false, .ref s.heap.objs.size, rawInt 0, .none, .none] }) rfl
    rw [hz] at this; exact this
  refine ⟨⟨_, he, rfl⟩, h _ he ⟨_, Heap.get?_push_of_some _ (Heap.get?_push_size _ rfl), rfl, rfl⟩ (by rw [Heap.size_push, hz]) fun b o x => Heap.get?_push_of_some _ (Heap.get?_push_of_some _ x)⟩
theorem draws_tuple (hh : A.handled = none) (it l : Addr) (hne : l ≠ it) (items : Array Value) :
    Draws prog w A it [it, l] items.size (fun i v => items[i]? = some v) (fun i h => h.IsTupleIter it l i ∧ h.IsTuple l items) where
  live := fun _ _ st => let ⟨o, ho, _⟩ := st.1; ⟨o, ho⟩
  frame := fun _ _ _ st hk => ⟨st.1.at fun o e => hk it (by simp) o e, st.2.at fun o e => hk l (by simp) o e⟩
  item := fun i s Q E hi st hQ => by
    refine RZ.nextOf_tuple_item st.1 st.2 (x := items[i]) (by simp [hi]) fun h' hit' hs' => ?_
    exact hQ _ h' s.toks (by simp [hi]) ⟨hit', st.2.at fun o e => hs'.extBut l o hne e⟩ hs'
  done := fun s Q E st hE => RZ.nextOf_tuple_end hh st.1 st.2 (by simp) hE
end
/-- the tuple at a as it stands, number and item in new pairs -/
def IteT (K : PySem.W.Frag) (a : Addr) : It :=
  ⟨fun i H => ∃ (xs : List V) (x : V), SqT K H a xs ∧ xs[i]? = some x, fun i H v H' => ∃ T x, v = .ref T ∧ H T = none ∧ H' = upd H T (.tup [.int (i : Nat), x]) ∧ ∀ xs, SqT K H a xs → xs[i]? = some x, fun i H => ∃ xs : List V, SqT K H a xs ∧ xs.length ≤ i⟩
theorem turn_enumT {P : Program} {w : World} {K : PySem.W.Frag} {elts : List Expr} {kk : Nat} {tpos : Pos} (a e it : Addr) :
    Turn P w K (.Tuple elts kk tpos) (IteT K a) [e, it] e (fun i h => (∃ old, IsEnum h e it ((i : Nat) : Int) old) ∧ h.IsTupleIter it a i ∧ e ≠ it ∧ a ≠ it ∧ a ≠ e) where
  mem := by simp
  obj := fun i h st b hb => by
    obtain ⟨⟨old, he⟩, ⟨o, ho, hc, hd⟩, _⟩ := st
    have e' : b = e ∨ b = it := by simpa using hb
    rcases e' with z | z
    · rw [z]; exact ⟨_, he, fun v q => by cases q⟩
    · rw [z]; exact ⟨o, ho, fun v q => by rw [hd] at q; cases q⟩
  keep := fun i h h' st k => let ⟨⟨old, he⟩, hi, hne⟩ := st; ⟨⟨old, k e (by simp) _ he⟩, hi.at fun o q => k it (by simp) o q, hne⟩
  item := by
    intro X hP hw hK hc i pins s σ H E I hf st hg
    subst hP hw hK
    obtain ⟨⟨old, he⟩, hit, hne, hai, hae⟩ := st
    obtain ⟨xs, x, hq, hx⟩ := hg
    obtain ⟨its, rv, p, hz⟩ := I.tuple hq
    obtain ⟨u, hu, ru⟩ := rv.get hx
    have hel : e < s.heap.objs.size := Heap.lt_size he
    have hil : it < s.heap.objs.size := by obtain ⟨_, q, _⟩ := hit; exact Heap.lt_size q
    have hlt : i < its.toArray.size := by rw [List.size_toArray]; exact (List.getElem?_eq_some_iff.mp hu).1
    have Dr := draws_tuple (prog := X.prog) (w := X.w) (A := X.A.in1) (I.ok.hd hc) it a hai its.toArray
    refine wpAny_pyNext_enum_itemD Dr he ⟨hit, (show s.heap.IsTuple a its.toArray from p)⟩ hlt hne (by simp; exact ⟨hne, fun z => hae z.symm⟩) fun y h' tk hP ho hs' hT hsz hk => ?_
    have hy : y = u := by
      have q : its.toArray[i]? = some y := hP
      rw [List.getElem?_toArray, hu] at q
      exact (Option.some.inj q).symm
    subst hy
    refine ⟨_, rfl, wpAny_letOwnedTupleGo_enum (s := { s with heap := h', toks := tk + 1 }) ho fun h'' he' sb => ?_⟩
    have hT2 : h''.get? s.heap.objs.size = some { cls := .type "tuple", data := .seq #[.int i tk, y] } := (sb.2 _ (Nat.ne_of_gt hel)).trans hT
    have new : ObjOk X.prog X.w (upd H s.heap.objs.size (.tup [.int (i : Nat), x])) h'' s.heap.objs.size (.tup [.int (i : Nat), x]) :=
      ⟨by show 2 ≤ sizeLine; decide, [.int i tk, y], .cons ⟨_, rfl⟩ (.cons ru .nil), ⟨_, hT2, rfl, _, rfl⟩⟩
    have I1 : Inv X pins σ (upd H s.heap.objs.size (.tup [.int (i : Nat), x])) { s with heap := h'', toks := tk + 1 } :=
      I.turnedNew (ch := [e, it]) (fun b ob hb q => (sb.2 b (fun z => hb (by simp [z]))).trans (hk b ob (fun z => hb (by simp [z])) (fun z => hb (by simp [z])) q)) hf (Nat.le_refl _) new
    refine ⟨.ref s.heap.objs.size, _, I1, rfl, ⟨_, x, rfl, I.hok.fresh (Nat.le_refl _), rfl, fun ys hy => by rw [I.tuple_inj hy hq]; exact hx⟩, ⟨⟨y, ?_⟩, hs'.1.at fun o q => (sb.2 it (Ne.symm hne)).trans q, hne, hai, hae⟩, fun b hb => ?_⟩
    · have e1 : ((i + 1 : Nat) : Int) = (i : Int) + 1 := by omega
      rw [e1]; exact he'
    · have hb' : b < s.heap.objs.size := by
        have e' : b = e ∨ b = it := by simpa using hb
        rcases e' with z | z
        · rw [z]; exact hel
        · rw [z]; exact hil
      rw [upd_ne (Nat.ne_of_lt hb')]
      exact (hf b hb).1
  done := by
    intro X hP hw hK hc i pins s σ H E I hf st hg
    subst hP hw hK
    obtain ⟨⟨old, he⟩, hit, hne, hai, hae⟩ := st
    obtain ⟨xs, hq, hx⟩ := hg
    obtain ⟨its, rv, p, hz⟩ := I.tuple hq
    obtain ⟨f0, f1, f2, f3, f4, f5⟩ := hf it (by simp)
    have hl := rv.length
    unfold pyNext
    have hT : s.TypeIs (.ref e) "enumerate" := ⟨_, he, rfl⟩
    refine wpAny_bind (wpAny_attempt (wpAny_callSpecial?_slot (name := Str.ofString "__next__") hT F.slot_enumerate_next
      (wpAny_call_entry F.slot_enumerate_next hT F.entry_enumerate_next ?_ (F.args_enumerate_next_1 _))))
    show wpAny _ _ (field (.ref e) 2 >>= _) _ _ _
    refine wpAny_bind (wpAny_field he rfl (x := .ref it) rfl ?_)
    refine wpAny_bind (RZ.nextOf_tuple_end (A := X.A.in1) (I.ok.hd hc) hit (show s.heap.IsTuple a its.toArray from p) (by rw [List.getElem?_toArray]; exact List.getElem?_eq_none (by omega)) fun h' x he' hx' => ?_)
    obtain ⟨o, ho, hc⟩ := hx'
    refine wpAny_bind (wpAny_isInstance (T := "StopIteration") (b := true) ⟨o, ho, hc⟩ isSubtype_stop ?_)
    exact wpAny_pure ⟨rfl, I.turned (t' := s.toks) (fun b o hb q => he' b o hb q) f0 f1 f3 f4 f5⟩
  self := fun A i s Q E st h => let ⟨⟨_, he⟩, _⟩ := st; wpAny_pyIter_enum he h
def iEnumT (K : PySem.W.Frag) (ta : TA) : TI := fun σ H R => ta σ H fun vs H1 => ∃ a xs, vs = [.ref a] ∧ SqT K H1 a xs ∧ R (IteT K a) H1
theorem pi_enumT {X : Cx} {e : Expr} {ta : TA} {p pos tpos : Pos} {elts : List Expr} {kk : Nat} (hg : Gl X "enumerate") (hm : X.mg "enumerate" = none) (ha : PA X [e] ta) (hs : starEach [e] X.env = [(false, eval e X.env)] := by rfl) :
    PI X (.Tuple elts kk tpos) (.Call (.Name "enumerate" p) [e] [] pos) (iEnumT X.K ta) := by
  refine ⟨fun pins s σ H R I h => ?_⟩
  refine Call_ (ld_blt I hg hm boot_enumerate (PyProof.Rows.callWith_type1 (thn (ha.run pos pins s σ H _ I h) fun us s1 ⟨vs, H1, I1, r1, q1⟩ => ?_) hs rfl))
  obtain ⟨a, xs, ex, hq, q⟩ := q1
  subst ex
  cases r1 with
  | cons r rr =>
    cases rr
    cases r
    obtain ⟨its, rv, p', hz⟩ := I1.tuple hq
    have hlt := p'.lt
    refine call_enumerate_tuple (show s1.heap.IsTuple a its.toArray from p') fun h' he hit hsz hk => wpAny_pyIter_enum he ?_
    have I2 : Inv X pins σ H1 { s1 with heap := h' } := I1.kept (t' := s1.toks) hk
    refine ⟨s1.heap.objs.size + 1, [s1.heap.objs.size + 1, s1.heap.objs.size], _, _, H1, rfl, I2, turn_enumT a (s1.heap.objs.size + 1) s1.heap.objs.size, ⟨⟨.none, he⟩, hit, Nat.succ_ne_self _, Nat.ne_of_lt hlt, Nat.ne_of_lt (Nat.lt_succ_of_lt hlt)⟩, fun b hb => ?_, q⟩
    have e' : b = s1.heap.objs.size + 1 ∨ b = s1.heap.objs.size := by simpa using hb
    have hle : s1.heap.objs.size ≤ b := by
      rcases e' with z | z
      · rw [z]; exact Nat.le_add_right _ _
      · rw [z]; exact Nat.le_refl _
    exact I1.fpOk hle (I1.hok.fresh hle)
end VL
end

section
set_option Elab.async false
set_option linter.all false
set_option maxRecDepth 100000
set_option maxHeartbeats 4000000
namespace VL
open PySem PySem.Spec PyProof.Rows L2
theorem walk_enumT {K : PySem.W.Frag} {a : Addr} {xs : List V} : Walk (IteT K a) xs.length (fun H => SqT K H a xs) (YPair (fun i => some (.int (i : Nat))) (fun i => xs[i]?)) :=
  ⟨fun i H hi h => ⟨xs, xs[i], h, by simp [hi]⟩, fun H h => ⟨xs, h, Nat.le_refl _⟩, fun i H x H' hi h ⟨T, y, e1, e2, e3, e4⟩ => ⟨T, _, y, e1, e2, e3, rfl, e4 xs h⟩⟩
theorem walk_zipT {K : PySem.W.Frag} {a b : Addr} {xs ys : List V} {n : Nat} (hn : n = min xs.length ys.length) : Walk (RZ.ItzT K a b) n (fun H => SqT K H a xs ∧ SqT K H b ys) (YPair (fun i => xs[i]?) (fun i => ys[i]?)) := by
  subst hn
  exact ⟨fun i H hi h => ⟨xs, ys, xs[i]'(by omega), ys[i]'(by omega), h.1, h.2, by simp, by simp⟩, fun H h => ⟨xs, ys, h.1, h.2, by omega⟩,
    fun i H x H' hi h ⟨T, y, z, e1, e2, e3, e4, e5⟩ => ⟨T, y, z, e1, e2, e3, e4 xs h.1, e5 ys h.2⟩⟩
section
variable {X : Cx} {e a b c tg : Expr} {es : List Expr} {ρ ρ1 ρ2 ρ3 ρ' : Lo} {x y d : D} {pos p p2 : Pos} {F F' : Hp} {O : Addr → Prop} {σ : L2.St} {H H' S T : Hp} {i j : Nat} {n m : Str} {ds es' : List D} {q : Addr} {K : PySem.W.Frag}
theorem ci_enumT {xs : List D} {elts : List Expr} {kk : Nat} {tpos : Pos} (hm : X.mg "enumerate" = none) (ha : CE X ρ a (.tup xs) ρ1) (hg : Gl X "enumerate" := by rfl)
    (hs : starEach [a] X.env = [(false, eval a X.env)] := by rfl) (he : starEach [a] X.env = (false, eval a X.env) :: starEach [] X.env := by rfl) : CI X ρ (.Tuple elts kk tpos) (.Call (.Name "enumerate" p) [a] [] pos) (enumD xs) ρ1 :=
  ⟨_, pi_enumT hg hm pa_tw hs, ha.1, fun F O σ H R I k => (d_cons ha d_nil he).2 F O σ H _ I fun vs H1 J r => by
    obtain ⟨v, rfl, ru⟩ := one_of r
    cases ru with
    | @tup a1 vs1 _ h1 r1 =>
      refine ⟨a1, vs1, rfl, hid_ex.t h1, k _ H1 J ?_⟩
      refine WK.of (walk_enumT (K := X.K) (a := a1) (xs := vs1)) (by rw [enumD_len, r1.length]) (fun H' h => h.t ((T_S ρ1 H1).t h1)) fun i H' v H'' hi h y => ?_
      obtain ⟨t, u1, u2, rfl, ht, rfl, e1, e2⟩ := y
      cases e1
      obtain ⟨d2, q3, q4⟩ := r1.get' e2
      exact ⟨_, enumD_get q3, .inr ⟨t, _, _, ht, rfl, rfl, rfl, .cons (.int _) (.cons q4 .nil)⟩⟩⟩
theorem ci_zipT {xs ys : List D} {elts : List Expr} {kk : Nat} {tpos : Pos} (hm : X.mg "zip" = none) (ha : CE X ρ a (.tup xs) ρ1) (hb : CE X ρ1 b (.tup ys) ρ2) (hg : Gl X "zip" := by rfl)
    (hs : starEach [a, b] X.env = (false, eval a X.env) :: starEach [b] X.env := by rfl) (hpl : (backTo pos (starEach [b] X.env)).any (·.1) = false := by rfl)
    (he2 : starEach [b] X.env = (false, eval b X.env) :: starEach [] X.env := by rfl) : CI X ρ (.Tuple elts kk tpos) (.Call (.Name "zip" p) [a, b] [] pos) (zipD xs ys) ρ2 :=
  ⟨_, RZ.pi_zipA hg hm pa_tw hs hpl, hb.1.trans ha.1, fun F O σ H R I k => (d_cons ha (d_cons hb d_nil he2) hs).2 F O σ H _ I fun vs H1 J r => by
    obtain ⟨v, w, rfl, ru, rw'⟩ := two_of r
    cases ru with
    | @tup a1 vs1 _ h1 r1 =>
      cases rw' with
      | @tup a2 vs2 _ h2 r2 =>
        refine ⟨a1, a2, vs1, vs2, rfl, .inr ⟨hid_ex.t h1, hid_ex.t h2, k _ H1 J ?_⟩⟩
        refine WK.of (walk_zipT (K := X.K) (a := a1) (b := a2) (xs := vs1) (ys := vs2) rfl) (by unfold zipD; rw [List.length_zipWith, r1.length, r2.length]) (fun H' h => ⟨h.t ((T_S ρ2 H1).t h1), h.t ((T_S ρ2 H1).t h2)⟩) fun i H' v H'' hi h y => ?_
        obtain ⟨t, u1, u2, rfl, ht, rfl, e1, e2⟩ := y
        obtain ⟨d1, q1, q2⟩ := r1.get' e1
        obtain ⟨d2, q3, q4⟩ := r2.get' e2
        exact ⟨_, zipD_get q1 q3, .inr ⟨t, _, _, ht, rfl, rfl, rfl, .cons q2 (.cons q4 .nil)⟩⟩⟩

/-! ### isinstance -/
def tyD : D → String
  | .non => "NoneType"
  | .bl _ => "bool"
  | .int _ => "int"
  | .str _ => "str"
  | .tup _ => "tuple"
  | .lst _ => "list"
  | .frl _ => "list"
  | .dic _ => "dict"
  | _ => ""
/-- plain data -/
def plD : D → Bool
  | .ty _ => false
  | .adr _ => false
  | .ins _ _ => false
  | .exc _ _ _ => false
  | _ => true
theorem Rep.tyx {v : V} (r : Rep K H v d) (h : plD d = true) : TyX K H v (.type (tyD d)) := by
  cases r with
  | non => exact .base .non
  | bl b => exact .base (.bl b)
  | int i => exact .base (.int i)
  | str x => exact .base (.str x)
  | ty n => cases h
  | adr a => cases h
  | tup q _ =>
    rcases q with (q | ⟨o, q⟩) | ⟨o, its, n, h1, h2, _⟩
    · exact .base (.tup q)
    · exact .fTuple q
    · exact .kTuple h1 h2
  | lst q _ => exact .base (.lst q)
  | frl q _ =>
    rcases q with (q | ⟨o, q⟩) | ⟨o, its, n, h1, h2, _⟩
    · exact .base (.lst q)
    · exact .base (.frz q)
    · exact .kList h1 h2
  | dic q _ => exact .base (.dK q)
  | ins q _ => cases h
  | exc q _ => cases h
theorem TyX.mono {v : V} {t : Value} (e : Ex H H') (h : TyX K H v t) : TyX K H' v t := by
  cases h with
  | base h =>
    cases h with
    | non => exact .base .non
    | bl b => exact .base (.bl b)
    | int i => exact .base (.int i)
    | str x => exact .base (.str x)
    | flt x => exact .base (.flt x)
    | lst h => exact .base (.lst (e _ _ h))
    | frz h => exact .base (.frz (e _ _ h))
    | tup h => exact .base (.tup (e _ _ h))
    | dK h => exact .base (.dK (e _ _ h))
    | dT h => exact .base (.dT (e _ _ h))
    | ins h a b c d f => exact .base (.ins (e _ _ h) a b c d f)
  | byt b => exact .byt b
  | set h => exact .set (e _ _ h)
  | kList a b => exact .kList a b
  | kTuple a b => exact .kTuple a b
  | kDict a b => exact .kDict a b
  | fTuple h => exact .fTuple (e _ _ h)
  | fDict h => exact .fDict (e _ _ h)
/-- the classes asked for here -/
def isT (n : String) (d : D) : Bool := decide (tyD d = n) || (decide (n = "int") && decide (tyD d = "bool"))
def knownT (n : String) : Bool := ["int", "bool", "str", "tuple", "list", "dict"].contains n
theorem kit_D (h : plD d = true) (n : String) (hn : knownT n = true) : PySem.W.kitOne K (.type (tyD d)) (.type n) = some (isT n d) := by
  have hn' : n = "int" ∨ n = "bool" ∨ n = "str" ∨ n = "tuple" ∨ n = "list" ∨ n = "dict" := by
    unfold knownT at hn
    simp at hn
    exact hn
  rcases hn' with rfl | rfl | rfl | rfl | rfl | rfl <;> (cases d <;> first | rfl | cases h)
theorem c_isi {T : String} (hm : X.mg "isinstance" = none) (ha : CE X ρ a d ρ1) (hb : CE X ρ1 b (.ty T) ρ2) (hd : plD d = true) (hT : knownT T = true) (hg : Gl X "isinstance" := by rfl)
    (hs : starEach [a, b] X.env = (false, eval a X.env) :: starEach [b] X.env := by rfl) (hpl : (backTo pos (starEach [b] X.env)).any (·.1) = false := by rfl)
    (he2 : starEach [b] X.env = (false, eval b X.env) :: starEach [] X.env := by rfl) : CE X ρ (.Call (.Name "isinstance" p) [a, b] [] pos) (.bl (isT T d)) ρ2 :=
  c_blt call_isi (fun F O ρ σ H vs Q I r q => by
    obtain ⟨v, w, rfl, r1, r2⟩ := two_of r
    cases r2
    exact ⟨v, .ty T, _, _, _, rfl, .ty T, (r1.mono hid_ex).tyx hd, kit_D hd T hT, q _ _ I (.bl _)⟩) hm (by decide +kernel) (d_cons ha (d_cons hb d_nil he2) hs) hg (he := hs) (hpl := hpl)
/-- isinstance(x, (T, U)) -/
theorem c_isi2 {T U : String} {tpos : Pos} {kk : Nat} (hm : X.mg "isinstance" = none) (ha : CE X ρ a d ρ1) (hb : CE X ρ1 b (.ty T) ρ1) (hc : CE X ρ1 c (.ty U) ρ1) (hd : plD d = true) (hT : knownT T = true) (hU : knownT U = true) (hg : Gl X "isinstance" := by rfl)
    (hs : starEach [a, .Tuple [b, c] kk tpos] X.env = (false, eval a X.env) :: starEach [.Tuple [b, c] kk tpos] X.env := by rfl) (hpl : (backTo pos (starEach [.Tuple [b, c] kk tpos] X.env)).any (·.1) = false := by rfl)
    (he2 : starEach [.Tuple [b, c] kk tpos] X.env = (false, eval (.Tuple [b, c] kk tpos) X.env) :: starEach [] X.env := by rfl)
    (he3 : starEach [b, c] X.env = (false, eval b X.env) :: starEach [c] X.env := by rfl) (he4 : starEach [c] X.env = (false, eval c X.env) :: starEach [] X.env := by rfl) :
    CE X ρ (.Call (.Name "isinstance" p) [a, .Tuple [b, c] kk tpos] [] pos) (.bl (isT T d || isT U d)) ρ1 :=
  .of (pe_callB call_isiT hg hm (by decide +kernel) (pa_cons pe_tw (pa_cons (pe_tup (pa_cons pe_tw (pa_cons pe_tw pa_nil he4) he3)) pa_nil he2) hs) (by decide) (by decide) hs hpl) ⟨ha.1, fun F O σ H Q I q => by
    refine ha.2 F O σ H _ I fun v H1 J r => hb.2 _ O σ H1 _ J.sup fun w H2 L r2 => hc.2 _ O σ H2 _ L.sup fun u H3 M r3 => ⟨(show 2 ≤ sizeLine by decide), fun t ht => ?_⟩
    cases r2
    cases r3
    have M' := (M.weak L.le_sup L.od).weak J.le_sup J.od
    have r' : Rep X.K (hid (UU O ρ1) H3) v d := SOk.keep rfl M (SOk.keep rfl L r)
    have kt : PySem.W.kitAny X.K (.type (tyD d)) [.type T, .type U] = some (isT T d || isT U d) := by
      unfold PySem.W.kitAny
      rw [kit_D hd T hT]
      cases isT T d with
      | true => rfl
      | false =>
        unfold PySem.W.kitAny
        rw [kit_D hd U hU]
        cases isT U d with
        | true => rfl
        | false => rfl
    have M2 := M'.new (o := .tup [.ty T, .ty U]) ht
    exact ⟨v, t, _, _, _, _, rfl, upd_same, .cons (.ty T) (.cons (.ty U) .nil), TyX.mono (fun a o h => by rw [upd_ne (ne_of_none h ht)]; exact h) ((r'.mono hid_ex).tyx hd), kt, q _ _ M2 (.bl _)⟩⟩

/-! ### == at any depth -/
mutual
def pyd : D → PyData
  | .non => .none
  | .bl b => .bool b
  | .int i => .int i
  | .str x => .str x
  | .tup l => .tuple (pyds l)
  | .lst l => .list (pyds l)
  | _ => .dict []
def pyds : List D → List PyData
  | [] => []
  | d :: l => pyd d :: pyds l
end
mutual
/-- what == reads -/
def eqD : D → Bool
  | .non => true
  | .bl _ => true
  | .int _ => true
  | .str _ => true
  | .tup l => eqDs l
  | .lst l => eqDs l
  | _ => false
def eqDs : List D → Bool
  | [] => true
  | d :: l => eqD d && eqDs l
end
mutual
theorem Rep.dp : ∀ (d : D) (v : V), eqD d = true → Rep K H v d → Dp K H v (pyd d)
  | .non, _, _, r => by cases r; exact .non
  | .bl b, _, _, r => by cases r; exact .bl b
  | .int i, _, _, r => by cases r; exact .int i
  | .str x, _, _, r => by cases r; exact .str x
  | .tup l, _, h, r => by cases r with | tup q r => exact .tup q (Reps.dp l _ h r)
  | .lst l, _, h, r => by cases r with | lst q r => exact .lst (.of q) (Reps.dp l _ h r)
  | .frl _, _, h, _ => Bool.noConfusion (show false = true from h)
  | .dic _, _, h, _ => Bool.noConfusion (show false = true from h)
  | .ty _, _, h, _ => Bool.noConfusion (show false = true from h)
  | .adr _, _, h, _ => Bool.noConfusion (show false = true from h)
  | .ins _ _, _, h, _ => Bool.noConfusion (show false = true from h)
theorem Reps.dp : ∀ (d : List D) (v : List V), eqDs d = true → Reps K H v d → DpAll K H v (pyds d)
  | [], _, _, r => by cases r; exact .nil
  | d :: l, _, h, r => by
    cases r with
    | cons q r =>
      have h' : (eqD d && eqDs l) = true := h
      rw [Bool.and_eq_true] at h'
      exact .cons (Rep.dp d _ h'.1 q) (Reps.dp l _ h'.2 r)
end
theorem opd_eqD (hx : eqD x = true) (hy : eqD y = true) (sx : SeqAt.shaped (pyd x) = true) (sy : SeqAt.shaped (pyd y) = true) : OpD K (rEqD K) x y (.bl (PyData.eqv (pyd x) (pyd y))) := fun F O ρ σ H v w Q I r1 r2 q =>
  ⟨_, _, Rep.dp _ _ hx (r1.mono hid_ex), Rep.dp _ _ hy (r2.mono hid_ex), sx, sy, q _ _ I (.bl _)⟩
theorem opd_neD (hx : eqD x = true) (hy : eqD y = true) (sx : SeqAt.shaped (pyd x) = true) (sy : SeqAt.shaped (pyd y) = true) : OpD K (rNeD K) x y (.bl (!PyData.eqv (pyd x) (pyd y))) := fun F O ρ σ H v w Q I r1 r2 q =>
  ⟨_, _, Rep.dp _ _ hx (r1.mono hid_ex), Rep.dp _ _ hy (r2.mono hid_ex), sx, sy, q _ _ I (.bl _)⟩
theorem c_eqD (hu : X.A.units + 64 < cLine) (ha : CE X ρ a x ρ1) (hb : CE X ρ1 b y ρ2) (hx : eqD x = true) (hy : eqD y = true) (sx : SeqAt.shaped (pyd x) = true) (sy : SeqAt.shaped (pyd y) = true) : CE X ρ (.Compare a [.Eq] [b] pos) (.bl (PyData.eqv (pyd x) (pyd y))) ρ2 := c_cmp (op_eqD hu) (opd_eqD hx hy sx sy) ha hb (nomark _)
theorem c_neD (hu : X.A.units + 64 < cLine) (ha : CE X ρ a x ρ1) (hb : CE X ρ1 b y ρ2) (hx : eqD x = true) (hy : eqD y = true) (sx : SeqAt.shaped (pyd x) = true) (sy : SeqAt.shaped (pyd y) = true) : CE X ρ (.Compare a [.NotEq] [b] pos) (.bl (!PyData.eqv (pyd x) (pyd y))) ρ2 := c_cmp (op_neD hu) (opd_neD hx hy sx sy) ha hb (nomark _)
theorem t_eqD (hu : X.A.units + 64 < cLine) (ha : CE X ρ a x ρ1) (hb : CE X ρ1 b y ρ2) (hx : eqD x = true) (hy : eqD y = true) (sx : SeqAt.shaped (pyd x) = true) (sy : SeqAt.shaped (pyd y) = true) : CT X ρ (.Compare a [.Eq] [b] pos) (PyData.eqv (pyd x) (pyd y)) ρ2 := t_cmp (op_eqD hu) (opd_eqD hx hy sx sy) ha hb (nomark _)
theorem t_neD (hu : X.A.units + 64 < cLine) (ha : CE X ρ a x ρ1) (hb : CE X ρ1 b y ρ2) (hx : eqD x = true) (hy : eqD y = true) (sx : SeqAt.shaped (pyd x) = true) (sy : SeqAt.shaped (pyd y) = true) : CT X ρ (.Compare a [.NotEq] [b] pos) (!PyData.eqv (pyd x) (pyd y)) ρ2 := t_cmp (op_neD hu) (opd_neD hx hy sx sy) ha hb (nomark _)
end
end VL
end

section
set_option Elab.async false
set_option linter.all false
set_option maxRecDepth 100000
set_option maxHeartbeats 4000000
namespace VL
open PySem PySem.Spec PyProof.Rows L2
section
variable {X : Cx} {e a b c tg : Expr} {es : List Expr} {ρ ρ1 ρ2 ρ3 ρ' : Lo} {x y z d : D} {pos p p2 : Pos} {F F' : Hp} {O : Addr → Prop} {σ : L2.St} {H H' S T : Hp} {i j : Nat} {n m : Str} {ds es' : List D} {q : Addr} {K : PySem.W.Frag} {W : WE} {rest : List Stmt}
/-- behind a new list another expression; then the list is a slot's own -/
theorem after_new {e : Expr} {vs : List V} {H1 : Hp} (J : SOk X.K F O ρ1 σ H1) (hp : H1 q = none) (r : Reps X.K (hid (UU O ρ1) H1) vs ds) (hb : CE X ρ1 b y ρ2) {Q : V → Hp → Prop}
    (k : ∀ w H2, SOk X.K F O ρ2 σ (delH H2 q) → delH H2 q q = none → Reps X.K (hid (UU O ρ2) (delH H2 q)) vs ds → Rep X.K (hid (UU O ρ2) (delH H2 q)) w y → H2 q = some (.lst vs) → (∀ v d, Rep X.K (hid (UU O ρ1) H1) v d → Rep X.K (hid (UU O ρ2) (delH H2 q)) v d) → Q w H2) : tw X b σ (upd H1 q (.lst vs)) Q := by
  have J1 : SOk X.K (upd (VL.sup ρ1 H1) q (.lst vs)) (orA O q) ρ1 σ (upd H1 q (.lst vs)) := J.sup.orNew hp
  have nS : VL.sup ρ1 H1 q = none := by
    cases zz : VL.sup ρ1 H1 q with
    | none => rfl
    | some o =>
      have := hid_ex q o zz
      rw [hp] at this
      cases this
  refine hb.2 _ _ σ _ _ J1 fun w H2 L rw' => ?_
  obtain ⟨K1, K2⟩ := L.orDel nS J.sup.od
  have hq2 : H2 q = some (.lst vs) := L.fr q _ upd_same
  have rw2 : Rep X.K (hid (UU O ρ2) (delH H2 q)) w y := rw'.mono (ex_hid fun a u _ nn h => by
    have nq : a ≠ q := fun e => nn (.inl (.inr e))
    exact ⟨fun zz => nn (zz.elim (fun zz => .inl (.inl zz)) .inr), by rw [delH_ne nq]; exact h⟩)
  have ex : Ex (hid (UU O ρ1) H1) (hid (UU O ρ2) (delH H2 q)) := ex_hid fun a u _ nn h => ⟨fun zz => nn (by
    unfold UU at zz ⊢
    rw [← hb.1]
    exact zz), K1.fr a u (hid_of (fun zz => nn (.inr zz)) h)⟩
  exact k w H2 (K1.weak J.le_sup J.od) delH_same (r.mono ex) rw2 hq2 fun v d r => r.mono ex
/-- a, b = [..], y -/
theorem css_parN (i j : Nat) {px py pt pt2 : Pos} {kt k2} (B : Bd X) (ha : CN X ρ a ds ρ1) (hb : CE X ρ1 b y ρ2) (k : ∀ q, CSs X ((ρ2.set i (.mut q ds)).set j (.dat y)) rest W) (hl : i < ρ2.length := by first | decide | simp) (hij : i ≠ j := by decide) (hi : X.N[i]? = some n := by rfl) (hj : X.N[j]? = some m := by rfl)
    (hx : X.env.scope.names.lookup n = some .local := by rfl) (hy : X.env.scope.names.lookup m = some .local := by rfl)
    (hw : swappedStores [.Tuple [.Name n px, .Name m py] kt pt] (.Tuple [a, b] k2 pt2) X.env = pure (some [n, m]) := by rfl)
    (hs : swapsWithSole [.Tuple [.Name n px, .Name m py] kt pt] (.Tuple [a, b] k2 pt2) pos.line X.env = pure false := by rfl)
    (he : starEach [a, b] X.env = (false, eval a X.env) :: starEach [b] X.env := by rfl) (he2 : starEach [b] X.env = (false, eval b X.env) :: starEach [] X.env := by rfl) : CSs X ρ (.Assign [.Tuple [.Name n px, .Name m py] kt pt] (.Tuple [a, b] k2 pt2) pos :: rest) W :=
  css_of (ps_par B.calm B.nd hi hj hij hx hy (pa_cons pe_tw (pa_cons pe_tw pa_nil he2) he) hw hs) fun F O σ H E I r => ha.2 F O σ H _ I fun q vs H1 J hp rv =>
    after_new (e := a) J hp rv hb fun w H2 L hq rs rw' hq2 _ => by
      refine ⟨.ref q, w, rfl, r.nx _ _ _ (k q) ?_⟩
      have M := L.own1 hq rs hl
      rw [upd_delH hq2] at M
      refine M.set (rw'.mono (ex_hid fun a o _ nn h => ⟨fun zz => ?_, ?_⟩))
      · rcases zz with zz | ⟨es, zz⟩
        · exact nn (.inl zz)
        · rcases List.mem_or_eq_of_mem_set zz with zz | zz
          · exact nn (.inr ⟨es, zz⟩)
          · cases zz
            rw [hq] at h
            cases h
      · have na : a ≠ q := fun e => by
          subst e
          rw [hq] at h
          cases h
        rw [delH_ne na] at h
        exact h
/-- a, b, c = x, [..], z -/
theorem css_par3N (i j l : Nat) {m2 : Str} {px py pz pt pt2 : Pos} {kt k2} (B : Bd X) (ha : CE X ρ a x ρ1) (hb : CN X ρ1 b ds ρ2) (hc : CE X ρ2 c z ρ3) (k : ∀ q, CSs X (((ρ3.set i (.dat x)).set j (.mut q ds)).set l (.dat z)) rest W) (hlt : j < ρ3.length := by first | decide | simp) (hij : i ≠ j := by decide) (hil : i ≠ l := by decide) (hjl : j ≠ l := by decide)
    (hi : X.N[i]? = some n := by rfl) (hj : X.N[j]? = some m := by rfl) (hl : X.N[l]? = some m2 := by rfl)
    (hx : X.env.scope.names.lookup n = some .local := by rfl) (hy : X.env.scope.names.lookup m = some .local := by rfl) (hz : X.env.scope.names.lookup m2 = some .local := by rfl)
    (hw : swappedStores [.Tuple [.Name n px, .Name m py, .Name m2 pz] kt pt] (.Tuple [a, b, c] k2 pt2) X.env = pure (some [n, m, m2]) := by rfl)
    (hs : swapsWithSole [.Tuple [.Name n px, .Name m py, .Name m2 pz] kt pt] (.Tuple [a, b, c] k2 pt2) pos.line X.env = pure false := by rfl)
    (he : starEach [a, b, c] X.env = (false, eval a X.env) :: starEach [b, c] X.env := by rfl) (he2 : starEach [b, c] X.env = (false, eval b X.env) :: starEach [c] X.env := by rfl) (he3 : starEach [c] X.env = (false, eval c X.env) :: starEach [] X.env := by rfl) :
    CSs X ρ (.Assign [.Tuple [.Name n px, .Name m py, .Name m2 pz] kt pt] (.Tuple [a, b, c] k2 pt2) pos :: rest) W :=
  css_of (ps_par3 B.calm B.nd hi hj hl hij hil hjl hx hy hz (pa_cons pe_tw (pa_cons pe_tw (pa_cons pe_tw pa_nil he3) he2) he) hw hs) fun F O σ H E I r => ha.2 F O σ H _ I fun v H0 I0 r0 => hb.2 _ O σ H0 _ I0.sup fun q vs H1 J hp rv => by
    have r1 := SOk.keep hb.1 J r0
    have J' := J.weak I0.le_sup I0.od
    refine after_new (e := a) J' hp rv (hb := hc) fun w H2 L hq rs rw' hq2 hk => ?_
    refine ⟨v, .ref q, w, rfl, r.nx _ _ _ (k q) ?_⟩
    have exS : ∀ {ρ : Lo} {i : Nat} {d : D} {H : Hp}, Ex (hid (UU O ρ) H) (hid (UU O (ρ.set i (.dat d))) H) := fun {ρ i d H} => ex_hid fun a o _ nn h => ⟨fun z => nn (UU_set datNe z), h⟩
    have M0 := L.set (i := i) (hk v x r1)
    have M1 := M0.own1 (i := j) hq (rs.mono (exS (i := i) (d := x))) (by rw [List.length_set]; exact hlt)
    rw [upd_delH hq2] at M1
    refine M1.set ((rw'.mono (exS (i := i) (d := x))).mono (ex_hid fun a o _ nn h => ⟨fun zz => ?_, ?_⟩))
    · rcases zz with zz | ⟨es, zz⟩
      · exact nn (.inl zz)
      · rcases List.mem_or_eq_of_mem_set zz with zz | zz
        · exact nn (.inr ⟨es, zz⟩)
        · cases zz
          rw [hq] at h
          cases h
    · have na : a ≠ q := fun e => by
        subst e
        rw [hq] at h
        cases h
      rw [delH_ne na] at h
      exact h
/-! ### a comprehension of pure elements -/
variable {elt iter cond : Expr} {scope : Scope} {own : List (Str × Nat)}
/-- no own list turns: each item d of the walk gives f d -/
theorem l_lc0 {T : Tg} (f : D → D) (hi : CI X ρ tg iter ds ρ1) (own : List (Str × Nat)) (B : Bd X) (ok : BlkOk X.N X.env.scope scope own) (hg : InB X scope fun Y => PG Y tg (gOf X.K T)) (hT : ∀ k ∈ T.slots, k ∈ own.map (·.2)) (hn : noMut ρ1 (own.map (·.2)))
    (hs : ∀ (i : Nat) d, ds[i]? = some d → ∃ ρ2, Bind T d (wipeL ρ1 (own.map (·.2))) ρ2 ∧ (∀ (k : Nat) p es, ρ1[k]? = some (.mut p es) → ρ2[k]? = some (.mut p es)) ∧ InB X scope fun Y => CE Y ρ2 elt (f d) ρ2)
    (hl : ds.length < sizeLine) (hfs : ∀ x, foldedSetIterable iter X.env x = pure x := by intro _; rfl) : CL X ρ elt tg iter [] scope (ds.map f) ρ1 := by
  refine l_lcG (T := T) (tt := tYes) (fun i ρi acc => ρi = ρ1 ∧ acc = (ds.take i).map f) B.calm B.nd hi ok hg (fun _ _ _ _ _ => pts_nil) hT hn ⟨rfl, rfl⟩ (fun i d ρi acc hd _ hJ => ?_) (fun ρn acc _ hJ => ⟨hJ.1, by rw [hJ.2, List.take_length]⟩) rfl hfs
  obtain ⟨rfl, rfl⟩ := hJ
  obtain ⟨ρ2, hb, hm, he⟩ := hs i d hd
  have hlt := (List.getElem?_eq_some_iff.mp hd).1
  refine ⟨ρ2, true, ρ2, hb, ⟨rfl, fun F O σ H Q I q => q H I⟩, fun _ => ⟨f d, ρ2, ρi, ev_twB he rfl, Like.refl, hm, ?_, rfl, ?_⟩, fun h => Bool.noConfusion h⟩
  · rw [List.length_map, List.length_take]
    omega
  · rw [List.take_add_one, hd, List.map_append]
    rfl
/-- .. with a test -/
theorem l_lc1 {T : Tg} (f : D → D) (g : D → Bool) (hi : CI X ρ tg iter ds ρ1) (own : List (Str × Nat)) (B : Bd X) (ok : BlkOk X.N X.env.scope scope own) (hg : InB X scope fun Y => PG Y tg (gOf X.K T)) (hT : ∀ k ∈ T.slots, k ∈ own.map (·.2)) (hn : noMut ρ1 (own.map (·.2)))
    (hs : ∀ (i : Nat) d, ds[i]? = some d → ∃ ρ2, Bind T d (wipeL ρ1 (own.map (·.2))) ρ2 ∧ (∀ (k : Nat) p es, ρ1[k]? = some (.mut p es) → ρ2[k]? = some (.mut p es)) ∧ (InB X scope fun Y => CT Y ρ2 cond (g d) ρ2) ∧ (g d = true → InB X scope fun Y => CE Y ρ2 elt (f d) ρ2))
    (hl : ds.length < sizeLine) (hfs : ∀ x, foldedSetIterable iter X.env x = pure x := by intro _; rfl) : CL X ρ elt tg iter [cond] scope ((ds.filter g).map f) ρ1 := by
  refine l_lcG (T := T) (tt := twTB X scope cond) (fun i ρi acc => ρi = ρ1 ∧ acc = ((ds.take i).filter g).map f) B.calm B.nd hi ok hg (fun _ _ _ _ _ => pts_one pt_twB) hT hn ⟨rfl, rfl⟩ (fun i d ρi acc hd _ hJ => ?_) (fun ρn acc _ hJ => ⟨hJ.1, by rw [hJ.2, List.take_length]⟩) rfl hfs
  obtain ⟨rfl, rfl⟩ := hJ
  obtain ⟨ρ2, hb, hm, hc, he⟩ := hs i d hd
  have hlt := (List.getElem?_eq_some_iff.mp hd).1
  have step : (ds.take (i + 1)).filter g = (ds.take i).filter g ++ (if g d then [d] else []) := by
    rw [List.take_add_one, hd, List.filter_append]
    congr 1
    cases h : g d <;> simp [h]
  refine ⟨ρ2, g d, ρ2, hb, et_twB hc rfl, fun h => ⟨f d, ρ2, ρi, ev_twB (he h) rfl, Like.refl, hm, ?_, rfl, ?_⟩, fun h => ⟨ρi, Like.refl, hm, rfl, ?_⟩⟩
  · rw [List.length_map]
    refine Nat.lt_of_le_of_lt (List.length_filter_le _ _) ?_
    rw [List.length_take]
    omega
  · rw [step, h, List.map_append]
    rfl
  · rw [step, h]
    simp
theorem n_lc0 {T : Tg} (f : D → D) (hi : CI X ρ tg iter ds ρ1) (own : List (Str × Nat)) (B : Bd X) (ok : BlkOk X.N X.env.scope scope own) (hg : InB X scope fun Y => PG Y tg (gOf X.K T)) (hT : ∀ k ∈ T.slots, k ∈ own.map (·.2)) (hn : noMut ρ1 (own.map (·.2)))
    (hs : ∀ (i : Nat) d, ds[i]? = some d → ∃ ρ2, Bind T d (wipeL ρ1 (own.map (·.2))) ρ2 ∧ (∀ (k : Nat) p es, ρ1[k]? = some (.mut p es) → ρ2[k]? = some (.mut p es)) ∧ InB X scope fun Y => CE Y ρ2 elt (f d) ρ2)
    (hl : ds.length < sizeLine) (hfs : ∀ x, foldedSetIterable iter X.env x = pure x := by intro _; rfl) : CN X ρ (.ListComp elt [⟨tg, iter, [], 0⟩] scope pos) (ds.map f) ρ1 := (l_lc0 f hi own B ok hg hT hn hs hl hfs).cn
theorem n_lc1 {T : Tg} (f : D → D) (g : D → Bool) (hi : CI X ρ tg iter ds ρ1) (own : List (Str × Nat)) (B : Bd X) (ok : BlkOk X.N X.env.scope scope own) (hg : InB X scope fun Y => PG Y tg (gOf X.K T)) (hT : ∀ k ∈ T.slots, k ∈ own.map (·.2)) (hn : noMut ρ1 (own.map (·.2)))
    (hs : ∀ (i : Nat) d, ds[i]? = some d → ∃ ρ2, Bind T d (wipeL ρ1 (own.map (·.2))) ρ2 ∧ (∀ (k : Nat) p es, ρ1[k]? = some (.mut p es) → ρ2[k]? = some (.mut p es)) ∧ (InB X scope fun Y => CT Y ρ2 cond (g d) ρ2) ∧ (g d = true → InB X scope fun Y => CE Y ρ2 elt (f d) ρ2))
    (hl : ds.length < sizeLine) (hfs : ∀ x, foldedSetIterable iter X.env x = pure x := by intro _; rfl) : CN X ρ (.ListComp elt [⟨tg, iter, [cond], 0⟩] scope pos) ((ds.filter g).map f) ρ1 := (l_lc1 f g hi own B ok hg hT hn hs hl hfs).cn
/-- name = [..] -/
theorem css_lc (i : Nat) {y : Str} {py pos spos : Pos} {ifs : List Expr} (h : CL X ρ elt tg iter ifs scope ds ρ1) (k : ∀ q, CSs X (ρ1.set i (.mut q ds)) rest W) (hl : i < ρ1.length := by first | decide | simp) (hi : X.N[i]? = some y := by rfl) (hx : X.env.scope.names.lookup y = some .local := by rfl)
    (hk : X.env.scope.kind = .function := by rfl) (hli : (py.line == pos.line) = true := by rfl) (ha : (scope.names.any fun (n, k) => n == y && (k == .local || k == .cell)) = false := by rfl) : CSs X ρ (.Assign [.Name y py] (.ListComp elt [⟨tg, iter, ifs, 0⟩] scope pos) spos :: rest) W := by
  obtain ⟨tl, _, h2, h3⟩ := h.ex
  exact css_of (h2 i y py pos spos hi hx (sw_true hk hx hli ha)) fun F O σ H E I r => h3.2 F O σ H _ I fun q vs H1 J hp rv => r.nx _ _ _ (k q) (J.own1 hp rv hl)
theorem css_lcF (i : Nat) {y : Str} {py pos spos : Pos} {ifs : List Expr} (h : CL X ρ elt tg iter ifs scope ds ρ1) (k : CSs X (ρ1.set i (.dat (.lst ds))) rest W) (hi : X.N[i]? = some y := by rfl) (hx : X.env.scope.names.lookup y = some .local := by rfl)
    (hk : X.env.scope.kind = .function := by rfl) (hli : (py.line == pos.line) = true := by rfl) (ha : (scope.names.any fun (n, k) => n == y && (k == .local || k == .cell)) = false := by rfl) : CSs X ρ (.Assign [.Name y py] (.ListComp elt [⟨tg, iter, ifs, 0⟩] scope pos) spos :: rest) W := by
  obtain ⟨tl, _, h2, h3⟩ := h.ex
  exact css_of (h2 i y py pos spos hi hx (sw_true hk hx hli ha)) fun F O σ H E I r => h3.2 F O σ H _ I fun q vs H1 J hp rv => r.nx _ _ _ k ((J.new hp).set (.lst (J.newHid hp) (rv.mono (ex_new hp))))
end
/-! ### targets by names -/
section
variable {X : Cx} {i : Nat} {n : Str} {p : Pos} {K : PySem.W.Frag}
theorem tg_nm (i : Nat) (nd : X.N.Nodup) (hi : X.N[i]? = some n := by rfl) (hx : Loc X.env.scope n := by first | exact Or.inl rfl | exact Or.inr rfl) (hf : X.fn n = true ∨ X.env.scope.names.lookup n = some .local := by first | exact .inl rfl | exact .inr rfl) : PG X (.Name n p) (gOf X.K (.nm i)) := pg_name nd hi hx hf
theorem tgs_nil : PGs X [] (gsOf K []) := pgs_nil
theorem tgs_cons {e : Expr} {es : List Expr} {T : Tg} {l : List Tg} (h : PG X e (gOf K T)) (hr : PGs X es (gsOf K l)) (hs : (assignEach (e :: es) X.env).map (·.2) = assign e X.env :: (assignEach es X.env).map (·.2) := by rfl) : PGs X (e :: es) (gsOf K (T :: l)) := pgs_cons h hr hs
theorem tg_tp {es : List Expr} {k : Nat} {l : List Tg} (hc : X.calm = true) (h : PGs X es (gsOf X.K l)) (hn : (assignEach es X.env).length = l.length := by rfl) (hst : (assignEach es X.env).findIdx? (·.1) = none := by rfl) : PG X (.Tuple es k p) (gOf X.K (.tp l)) := pg_tup hc h hn hst
end
end VL
namespace VL
open PySem PySem.Spec PyProof.Rows L2
theorem enumD_inv {xs : List D} {i : Nat} {d : D} (h : (enumD xs)[i]? = some d) : ∃ x, xs[i]? = some x ∧ d = .tup [.int (i : Nat), x] := by
  have hi : i < xs.length := by
    have := (List.getElem?_eq_some_iff.mp h).1
    rw [enumD_len] at this
    exact this
  refine ⟨xs[i], List.getElem?_eq_getElem hi, ?_⟩
  rw [enumD_get (List.getElem?_eq_getElem hi)] at h
  exact (Option.some.inj h).symm
theorem rangeD_inv {lo : Int} {n i : Nat} {d : D} (h : (rangeD lo n)[i]? = some d) : i < n ∧ d = .int (lo + (i : Nat)) := by
  have hi : i < n := by
    have := (List.getElem?_eq_some_iff.mp h).1
    rw [rangeD_len] at this
    exact this
  rw [rangeD_get hi] at h
  exact ⟨hi, (Option.some.inj h).symm⟩
theorem rangeDn_inv {lo : Int} {n i : Nat} {d : D} (h : (rangeDn lo n)[i]? = some d) : i < n ∧ d = .int (lo - (i : Nat)) := by
  have hi : i < n := by
    have := (List.getElem?_eq_some_iff.mp h).1
    rw [rangeDn_len] at this
    exact this
  rw [rangeDn_get hi] at h
  exact ⟨hi, (Option.some.inj h).symm⟩
theorem zipD_inv {xs ys : List D} {i : Nat} {d : D} (h : (zipD xs ys)[i]? = some d) : ∃ x y, xs[i]? = some x ∧ ys[i]? = some y ∧ d = .tup [x, y] := by
  unfold zipD at h
  rw [List.getElem?_zipWith] at h
  cases h1 : xs[i]? with
  | none => rw [h1] at h; cases h
  | some x =>
    cases h2 : ys[i]? with
    | none => rw [h1, h2] at h; cases h
    | some y =>
      rw [h1, h2] at h
      exact ⟨x, y, rfl, rfl, (Option.some.inj h).symm⟩
theorem atI_i {xs : List D} {k : Nat} {i : Int} {d : D} (hi : i = (k : Nat)) (h : xs[k]? = some d) : atI xs i = some d := by
  subst hi
  exact atI_nat h
theorem at_ints {ns : List Int} {k : Nat} {n : Int} (h : ns[k]? = some n) : (ns.map D.int)[k]? = some (.int n) := by
  rw [List.getElem?_map, h]
  rfl
theorem sz {n : Nat} (h : n ≤ 100000) : n ≤ sizeLine := Nat.le_trans h (by decide)
theorem szl {n : Nat} (h : n < 100000) : n < sizeLine := Nat.lt_of_lt_of_le h (by decide)
theorem flat1 (d : D) : ∀ n : Nat, (List.replicate n [d]).flatten = List.replicate n d
  | 0 => rfl
  | n + 1 => by rw [List.replicate_succ, List.flatten_cons, flat1 d n, List.replicate_succ]; rfl
theorem ixN_nat {n k : Nat} {i : Int} (hi : i = (k : Nat)) (h : k < n) : ixN n i = some k := by
  subst hi
  unfold ixN
  rw [if_pos (by omega), if_pos (by omega), Int.toNat_natCast]
section
variable {X : Cx} {e : Expr} {es : List Expr} {ρ ρ1 : Lo} {pos p : Pos} {n x : Str} {ds : List D} {W : WE} {rest : List Stmt} {r : Res} {k i : Nat}
/-- a call of one result, maybe an error -/
theorem q_callD {A : List D → Res → Prop} (Fn : FnV X.prog X.w X.K X.mg X.base k x (detS A)) (hr : Room k X.A) (ha : CD X ρ (e :: es) ds ρ1) (hA : A ds r) (hg : Gl X x := by rfl) (hdb : (x == ("__debug__" : Str)) = false := by decide)
    (he : starEach (e :: es) X.env = (false, eval e X.env) :: starEach es X.env := by rfl) (hpl : (backTo pos (starEach es X.env)).any (·.1) = false := by rfl) : ∀ R : Res → Lo → Prop, R r ρ1 → CQ X ρ (.Call (.Name x p) (e :: es) [] pos) R :=
  fun R h => q_call Fn hr ha ⟨ds, r, rfl, hA, rfl, h⟩ hg hdb he hpl
theorem css_exprR (q : ∀ R : Res → Lo → Prop, R r ρ1 → CQ X ρ e R) (h1 : ∀ d, r = .ok d → CSs X ρ1 rest W) (h2 : ∀ er, r = .error er → W.er er ρ1) (hs : swapsWith e none pos.line X.env = pure false := by rfl) : CSs X ρ (.Expr e pos :: rest) W :=
  css_exprQ (q _ (by cases r with | ok d => exact h1 d rfl | error er => exact h2 er rfl)) hs
theorem css_retR (q : ∀ R : Res → Lo → Prop, R r ρ1 → CQ X ρ e R) (h1 : ∀ d, r = .ok d → W.rt d ρ1) (h2 : ∀ er, r = .error er → W.er er ρ1) : CSs X ρ (.Return (some e) pos :: rest) W :=
  css_retQ (q _ (by cases r with | ok d => exact h1 d rfl | error er => exact h2 er rfl))
theorem css_asgR (i : Nat) (B : Bd X) (q : ∀ R : Res → Lo → Prop, R r ρ1 → CQ X ρ e R) (h1 : ∀ d, r = .ok d → CSs X (ρ1.set i (.dat d)) rest W) (h2 : ∀ er, r = .error er → W.er er ρ1) (hi : X.N[i]? = some n := by rfl) (hx : Loc X.env.scope n := by first | exact Or.inl rfl | exact Or.inr rfl)
    (hs : swapsWith e (some (.Name n p)) pos.line X.env = pure false := by rfl) (hf : X.fn n = true ∨ X.env.scope.names.lookup n = some .local := by first | exact .inl rfl | exact .inr rfl) : CSs X ρ (.Assign [.Name n p] e pos :: rest) W :=
  css_asgQ i B (q _ (by cases r with | ok d => exact h1 d rfl | error er => exact h2 er rfl)) hi hx hs hf
end
end VL
end

section
set_option Elab.async false
set_option linter.all false
set_option maxRecDepth 100000
set_option maxHeartbeats 4000000
/-! while an exception is handled: walks over lists, tuples taken apart, comprehensions -/
namespace VLH
open PySem PySem.Spec PyProof.Rows L2 HotX VL
open L2H (HotC TurnH PIH PIEH HotC.at)
section
variable {prog : Program} {w : World} {A : Around} {E : Value → Shared → Prop} {s : Shared}
theorem hot_but {x1 it : Addr} {h h' : Heap} (hot : HotAt A x1 h) (hs : Heap.ExtBut it h h') (hne : x1 ≠ it) : HotAt A x1 h' := by
  obtain ⟨hh, o1, vs1, h1, d1, c1⟩ := hot
  exact ⟨hh, o1, vs1, hs _ _ hne h1, d1, c1⟩
theorem next_list_end_hot {it l x1 : Addr} {i : Nat} {items} {Q : Option Value → Shared → Prop} (hot : HotAt A x1 s.heap)
    (hit : s.heap.IsListIter it l i) (hl : s.heap.IsList l items) (hx : items[i]? = none)
    (hQ : ∀ h', Heap.ExtBut it s.heap h' → Q none { s with heap := h' }) : wpAny (model prog w) A (pyNext (.ref it)) Q E s := by
  obtain ⟨o, ho, hc, hd⟩ := id hit
  obtain ⟨ol, hol, _, nl, hdl⟩ := hl
  have hne : x1 ≠ it := fun z => by
    obtain ⟨hh, o1, vs1, h1, d1, c1⟩ := hot
    rw [z, ho] at h1
    cases h1
    rw [hd] at d1
    cases d1
    simp at c1
  unfold pyNext
  refine wpAny_bind (wpAny_attempt (wpAny_callSpecial?_slot (name := Str.ofString "__next__") hit.typeIs slot_listiter_next
    (wpAny_call_entry slot_listiter_next hit.typeIs entry_listiter_next ?_ (args_listiter_next _))))
  show wpAny _ _ (field (.ref it) 0 >>= _) _ _ s
  refine wpAny_bind (wpAny_field ho hd (x := .ref l) rfl ?_)
  show wpAny _ _ (if (Value.ref l == Value.none) = true then _ else _) _ _ s
  rw [if_neg (show ¬ ((Value.ref l == Value.none) = true) from Bool.false_ne_true)]
  show wpAny _ _ (field (.ref it) 1 >>= _) _ _ s
  refine wpAny_bind (wpAny_field ho hd (x := .int i 0) rfl ?_)
  show wpAny _ _ (seqItems? (.ref l) >>= _) _ _ s
  refine wpAny_bind (wpAny_seqItems hol hdl ?_)
  simp only [Int.toNat_natCast, hx]
  refine wpAny_bind (wpAny_rule (wpAny_bind (wpAny_setField ho hd (by simp) ?_)))
  obtain ⟨hh, o1, vs1, h1, d1, c1⟩ := hot_but hot (Heap.SameBut.update s.heap it _).extBut hne
  show wpAny _ _ (newExc (.type "StopIteration") [] >>= _) _ _ _
  refine wpAny_bind ?_
  simp only [newExc, newTuple]
  refine wpAny_bind (wpAny_newObj_type ?_ (by size_fits))
  refine wpAny_bind (m := firstArgMember _ _) (wpAny_of_eq (a := Value.none) (by first | rfl | (simp only [firstArgMember]; rfl)) ?_)
  refine wpAny_newObj_type ?_ (by size_fits)
  refine raiseNew_hot ⟨hh, o1, vs1, Heap.get?_push_of_some _ (Heap.get?_push_of_some _ h1), d1, c1⟩ (Nat.ne_of_lt (Heap.lt_size (Heap.get?_push_of_some _ h1))) (Heap.get?_push_size _ rfl) rfl (by first | (simp; done) | (simp; omega) | (simp only [Array.size_append]; simp; omega)) ?_
  refine wpAny_bind (wpAny_isInstance (T := "StopIteration") (b := true) ⟨_, Heap.get?_update_self _ (Heap.get?_push_size _ rfl) rfl, rfl⟩ isSubtype_stop ?_)
  refine wpAny_pure (hQ _ fun b o hb e => ?_)
  have e1 := (Heap.SameBut.update s.heap it (Obj.mapFields fun x => x.setIfInBounds 0 Value.none)).extBut b o hb e
  rw [Heap.get?_update_other _ _ (Nat.ne_of_gt (Heap.lt_size (Heap.get?_push_of_some _ e1)))]
  exact Heap.get?_push_of_some _ (Heap.get?_push_of_some _ e1)
theorem next_tuple_end_hot {it l x1 : Addr} {i : Nat} {items} {Q : Option Value → Shared → Prop} (hot : HotAt A x1 s.heap)
    (hit : IsTupIter s.heap it l i) (hl : IsTup s.heap l items) (hx : items[i]? = none)
    (hQ : ∀ h', Heap.ExtBut it s.heap h' → Q none { s with heap := h' }) : wpAny (model prog w) A (pyNext (.ref it)) Q E s := by
  obtain ⟨o, ho, hc, hd⟩ := id hit
  obtain ⟨ol, hol, _, nl, hdl⟩ := hl
  have hne : x1 ≠ it := fun z => by
    obtain ⟨hh, o1, vs1, h1, d1, c1⟩ := hot
    rw [z, ho] at h1
    cases h1
    rw [hd] at d1
    cases d1
    simp at c1
  unfold pyNext
  refine wpAny_bind (wpAny_attempt (wpAny_callSpecial?_slot (name := Str.ofString "__next__") hit.typeIs slot_tupleiter_next
    (wpAny_call_entry slot_tupleiter_next hit.typeIs entry_tupleiter_next ?_ (args_tupleiter_next _))))
  show wpAny _ _ (field (.ref it) 0 >>= _) _ _ s
  refine wpAny_bind (wpAny_field ho hd (x := .ref l) rfl ?_)
  show wpAny _ _ (if (Value.ref l == Value.none) = true then _ else _) _ _ s
  rw [if_neg (show ¬ ((Value.ref l == Value.none) = true) from Bool.false_ne_true)]
  show wpAny _ _ (field (.ref it) 1 >>= _) _ _ s
  refine wpAny_bind (wpAny_field ho hd (x := .int i 0) rfl ?_)
  show wpAny _ _ (seqItems? (.ref l) >>= _) _ _ s
  refine wpAny_bind (wpAny_seqItems hol hdl ?_)
  simp only [Int.toNat_natCast, hx]
  refine wpAny_bind (wpAny_rule (wpAny_bind (wpAny_setField ho hd (by simp) ?_)))
  obtain ⟨hh, o1, vs1, h1, d1, c1⟩ := hot_but hot (Heap.SameBut.update s.heap it _).extBut hne
  show wpAny _ _ (newExc (.type "StopIteration") [] >>= _) _ _ _
  refine wpAny_bind ?_
  simp only [newExc, newTuple]
  refine wpAny_bind (wpAny_newObj_type ?_ (by size_fits))
  refine wpAny_bind (m := firstArgMember _ _) (wpAny_of_eq (a := Value.none) (by first | rfl | (simp only [firstArgMember]; rfl)) ?_)
  refine wpAny_newObj_type ?_ (by size_fits)
  refine raiseNew_hot ⟨hh, o1, vs1, Heap.get?_push_of_some _ (Heap.get?_push_of_some _ h1), d1, c1⟩ (Nat.ne_of_lt (Heap.lt_size (Heap.get?_push_of_some _ h1))) (Heap.get?_push_size _ rfl) rfl (by first | (simp; done) | (simp; omega) | (simp only [Array.size_append]; simp; omega)) ?_
  refine wpAny_bind (wpAny_isInstance (T := "StopIteration") (b := true) ⟨_, Heap.get?_update_self _ (Heap.get?_push_size _ rfl) rfl, rfl⟩ isSubtype_stop ?_)
  refine wpAny_pure (hQ _ fun b o hb e => ?_)
  have e1 := (Heap.SameBut.update s.heap it (Obj.mapFields fun x => x.setIfInBounds 0 Value.none)).extBut b o hb e
  rw [Heap.get?_update_other _ _ (Nat.ne_of_gt (Heap.lt_size (Heap.get?_push_of_some _ e1)))]
  exact Heap.get?_push_of_some _ (Heap.get?_push_of_some _ e1)

theorem unpackItems_tuple_hot {x1 t : Addr} {items : Array Value} {Q : List Value → Shared → Prop} (hot : HotAt A x1 s.heap) (ht : IsTup s.heap t items)
    (hQ : ∀ h', Heap.ExtBut s.heap.objs.size s.heap h' → Q items.toList { s with heap := h' }) : wpAny (model prog w) A (unpackItems (.ref t) items.size none) Q E s := by
  have hlt : t ≠ s.heap.objs.size := by obtain ⟨o, ho, _⟩ := ht; exact Nat.ne_of_lt (Heap.lt_size ho)
  have hx : x1 ≠ s.heap.objs.size := by obtain ⟨_, o, _, ho, _⟩ := hot; exact Nat.ne_of_lt (Heap.lt_size ho)
  unfold unpackItems
  refine wpAny_bind ?_
  · unfold notIterableAtAll
    refine wpAny_bind (wpAny_specialOf ht.typeIs slot_tuple_iter.lookup ?_)
    refine wpAny_pure ?_
    simp only [Bool.false_eq_true, if_false]
    refine wpAny_bind (wpAny_holding (iter_tuple ht ?_))
    refine wpAny_bind (wpAny_holding (draw_tuple hlt items.size 0 _ _ ⟨_, Heap.get?_push_size _ rfl, rfl, rfl⟩ (ht.push _) (by omega) fun h₁ hit₁ hs₁ => ?_))
    have hall : List.take items.size (List.drop 0 items.toList) = items.toList := by
      rw [List.drop_zero]; exact List.take_of_length_le (by simp)
    rw [hall]
    rw [if_neg (by simp)]
    have ht₁ : IsTup h₁ t items := (ht.push _).extBut hs₁.extBut hlt
    have hot1 : HotAt A x1 h₁ := hot_but hot (fun b o hb e => hs₁.extBut b o hb (Heap.get?_push_of_some _ e)) hx
    refine wpAny_bind (wpAny_holding (next_tuple_end_hot (s := { s with heap := h₁ }) hot1 hit₁ ht₁ (by simp) fun h₂ he₂ => ?_))
    simp only [Option.isSome_none, Bool.false_eq_true, if_false]
    refine wpAny_pure (hQ h₂ fun b o hb e => he₂ b o hb (hs₁.extBut b o hb (Heap.get?_push_of_some _ e)))
theorem assign_Tuple_tuple_hot {env : Env} {elts : List Expr} {x0} {x1 : Addr} {pos : Pos} {t : Addr} {items : Array Value} {Q : Unit → Shared → Prop} (hot : HotAt A x1 s.heap) (ht : IsTup s.heap t items)
    (hn : (assignEach elts env).length = items.size) (hstar : (assignEach elts env).findIdx? (·.1) = none)
    (h : ∀ h', Heap.ExtBut s.heap.objs.size s.heap h' → wpAny (model prog w) A (assignInOrder ((assignEach elts env).map (·.2)) items.toList) Q E { s with heap := h' }) :
    wpAny (model prog w) A (assign (.Tuple elts x0 pos) env (.ref t)) Q E s := by
  rw [assign_Tuple]
  refine wpAny_bind (wpAny_standAt ?_)
  unfold unpack
  rw [hn, hstar]
  exact wpAny_bind (wpAny_holding (unpackItems_tuple_hot hot ht h))
end
theorem pg_tupH {X : Cx} {pos : Pos} {es : List Expr} {k : Nat} {t : TGs} {n : Nat} (hc : HotC X) (h : PGs X es t)
    (hn : (assignEach es X.env).length = n := by rfl) (hst : (assignEach es X.env).findIdx? (·.1) = none := by rfl) : PG X (.Tuple es k pos) (gTup X.K n t) := by
  refine ⟨fun pins s σ H v u Q I r hw => ?_⟩
  obtain ⟨a, xs, e1, hq, hl, hw⟩ := hw
  subst e1
  cases r
  obtain ⟨its, rv, ht, hz⟩ := I.tuple hq
  obtain ⟨x1, hot⟩ := hc.at I
  refine assign_Tuple_tuple_hot hot ht (by simp [hn, ← hl, rv.length]) hst fun h' hx => ?_
  have I1 : Inv X pins σ H { s with heap := h' } := I.kept (t' := s.toks) fun b o e => hx b o (Nat.ne_of_lt (Heap.lt_size e)) e
  exact h.run pins _ σ H xs _ Q I1 (by simpa using rv) hw
theorem turn_listH {P : Program} {w : World} {K : PySem.W.Frag} {tg : Expr} (a it : Addr) : TurnH P w K tg (Itl K a) [it] it (fun i h => h.IsListIter it a i) where
  mem := by simp
  obj := fun i h st b hb => by
    have e : b = it := by simpa using hb
    subst e
    obtain ⟨o, e, c, d⟩ := st
    exact ⟨o, e, fun v z => by rw [d] at z; cases z⟩
  keep := fun i h h' st k => st.at fun o e => k it (by simp) o e
  item := by
    intro X hP hw hK hc i pins s σ H E I hf st hg
    subst hP hw hK
    obtain ⟨xs, x, hq, hx⟩ := hg
    obtain ⟨its, rv, p, hz⟩ := I.list hq
    obtain ⟨u, hu, ru⟩ := rv.get hx
    obtain ⟨f0, f1, f2, f3, f4, f5⟩ := hf it (by simp)
    refine wpAny_pyNext_list_item st p.isList (x := u) (by simpa using hu) fun h' st' sb => ?_
    have I1 : Inv X pins σ H { s with heap := h' } := I.turned (t' := s.toks) (fun b o hb e => (sb.2 b hb).trans e) f0 f1 f3 f4 f5
    obtain ⟨o, e, c, d⟩ := id st'
    exact ⟨u, rfl, go_of (s := { s with heap := h' }) e c d (by decide) ⟨x, H, I1, ru, ⟨rfl, fun ys hy => by rw [I.list_inj hy hq]; exact hx⟩, st', fun b hb => (hf b hb).1⟩⟩
  done := by
    intro X hP hw hK hc i pins s σ H E I hf st hg
    subst hP hw hK
    obtain ⟨xs, hq, hx⟩ := hg
    obtain ⟨its, rv, p, hz⟩ := I.list hq
    obtain ⟨f0, f1, f2, f3, f4, f5⟩ := hf it (by simp)
    have hl := rv.length
    obtain ⟨x1, hot⟩ := hc.at I
    exact next_list_end_hot hot st p.isList (by simp; omega) fun h' eb => ⟨rfl, I.turned (t' := s.toks) (fun b o hb e => eb b o hb e) f0 f1 f3 f4 f5⟩
  self := fun _ _ _ _ _ st h => wpAny_pyIter_listiter st h
theorem pi_listH {X : Cx} {tg l : Expr} {tl : TE} (hl : PE X l tl) : PIH X tg l (iList X.K tl) := by
  refine ⟨fun pins s σ H R I h => ?_⟩
  refine thn (hl.run pins s σ H _ I h) fun v s1 ⟨x, H1, I1, r1, q1⟩ => ?_
  obtain ⟨a, e, ⟨xs, hq⟩, q⟩ := q1
  subst e
  cases r1
  obtain ⟨its, rv, p, hz⟩ := I1.list hq
  refine wpAny_pyIter_list p.isList ?_
  refine ⟨s1.heap.objs.size, [s1.heap.objs.size], _, _, H1, rfl, I1.kept (t' := s1.toks) fun b o e => Heap.get?_push_of_some _ e, turn_listH a _, ⟨_, Heap.get?_push_size _ rfl, rfl, rfl⟩, fun b hb => ?_, q⟩
  have e : b = s1.heap.objs.size := by simpa using hb
  subst e
  exact I1.fpOk (Nat.le_refl _) (I1.hok.fresh (Nat.le_refl _))

/-- the context of a comprehension's block that bears the pins of its def -/
abbrev blkH (X : Cx) (pins : List (Addr × Obj)) (s : Shared) (H : Hp) (scope : Scope) (cenv : Env) (fp : List Addr) : Cx := { X.blk s H scope cenv fp with pn := X.pn ++ pins }
section
variable {X : Cx} {pins : List (Addr × Obj)} {σ : L2.St} {H : Hp} {s : Shared}
theorem okH {scope : Scope} {cenv : Env} {fp : List Addr} (ok : (X.blk s H scope cenv fp).Ok) : (blkH X pins s H scope cenv fp).Ok :=
  ⟨ok.mod, ok.kind, ok.glob, ok.blt, ok.above, ok.inj, ok.has, ok.cab, ok.hd, ok.frames, ok.stk, ok.exf, ok.bs, ok.bsz, ok.noex, ok.exfs, ok.funs, ok.frf⟩
theorem block_startH {scope : Scope} {own : List (Str × Nat)} {fp : List Addr} (I : Inv X pins σ H s) (ok : BlkOk X.N X.env.scope scope own) (hN : X.N.Nodup) (hfp : ∀ b ∈ fp, FpOk X pins H b ∧ b < s.heap.objs.size) :
    Inv (blkH X pins s H scope (compEnvC scope (cellsFrom (s.heap.objs.size + 1) scope.names (cloFrom X.env.cells scope.names [])) s.heap.objs.size X.env) fp) [] (wipe σ (own.map (·.2))) H { s with heap := pushCells (s.heap.push { cls := .type "dict", data := .dict #[] }) scope.names } := by
  have J := block_start I ok hN hfp
  refine ⟨okH J.ok, J.os, J.bare, J.base, J.loc, J.cell, J.free, J.freeC, fun p hp => ?_, J.hok, J.len⟩
  have hp' : p ∈ X.pn ++ pins := by rw [List.append_nil] at hp; exact hp
  obtain ⟨h1, h2, h3, h4, h5⟩ := I.pin p hp'
  refine ⟨pushCells_keeps _ _ _ _ (Heap.get?_push_of_some _ h1), h2, Nat.ne_of_lt (Heap.lt_size h1), fun z => ?_, h5⟩
  rcases List.mem_cons.mp (I.stkSub _ z) with z | z
  · exact h3 z
  · exact h4 z
theorem lc_coreH {Q : VK} {elt tg iter : Expr} {ifs : List Expr} {scope : Scope} {own : List (Str × Nat)} {pos pos' : Pos} {wi : TI} {g : TG} {tt : TT} {te : TE} {use : Option (Value → Sem Unit)} {Qf : Value → Shared → Prop}
    (hc : HotC X) (hN : X.N.Nodup) (I : Inv X pins σ H s) (hi : PIH X tg iter wi) (ok : BlkOk X.N X.env.scope scope own)
    (hg : ∀ (s : Shared) (H : Hp) (C : Addr) (cl : List (Str × Addr)) (fp : List Addr), PG (blkH X pins s H scope (compEnvC scope cl C X.env) fp) tg g) (ht : ∀ (s : Shared) (H : Hp) (C : Addr) (cl : List (Str × Addr)) (fp : List Addr), PTs (blkH X pins s H scope (compEnvC scope cl C X.env) fp) ifs tt)
    (he : ∀ (s : Shared) (H : Hp) (C : Addr) (cl : List (Str × Addr)) (fp : List Addr), PE (blkH X pins s H scope (compEnvC scope cl C X.env) fp) elt te) (hs : ∀ x, foldedSetIterable iter X.env x = pure x)
    (h : tLc wi g tt te (own.map (·.2)) σ H Q)
    (hRR : ∀ D C s' m H', Inv X pins σ H' s' → Q (.ref D) H' → s'.heap.Ns C m → FpOk X pins H' C → compPost (model X.prog X.w) X.A X.xe use Qf (.ref D) C (.ok .next) s') :
    wpAny (model X.prog X.w) X.A (comprehension (.ListComp elt [⟨tg, iter, ifs, 0⟩] scope pos) scope X.env pos' (newList []) false (eval iter X.env) use) Qf X.xe s := by
  have hfree : ∀ y ∈ scope.names, y.2 = .free → ∃ c, X.env.cells.lookup y.1 = some c := fun y hy e => (ok.free y hy e).elim (fun k => I.ok.has _ (.inl k)) fun k => I.ok.has _ (.inr k)
  have hcB : ∀ {s : Shared} {H : Hp} {ce : Env} {fp : List Addr}, HotC (blkH X pins s H scope ce fp) := fun {s H ce fp} => let ⟨p, h1, h2⟩ := hc; ⟨p, h1, List.mem_append_left _ h2⟩
  refine wpAny_comprehension_free (use := use) rfl hs (closure_ok hfree) ok.kind (fun y hy e => by rw [ok.uniq y hy, e])
    (thn (hi.run pins s σ H _ I h) fun xv s1 hx => thn hx fun itv s2 h2 => ?_)
  obtain ⟨it, fp, tn, J, H2, e, I2, T, st2, f2, q⟩ := h2
  subst e
  refine wpAny_newObj_type (newEnv_comp ?_) (by show 0 ≤ sizeLine; decide)
  generalize hD : s2.heap.objs.size = D
  have hDn : H2 D = none := I2.hok.fresh (Nat.le_of_eq hD)
  obtain ⟨W, ⟨m0, w0⟩, turn⟩ := q D hDn
  generalize hs3 : ({ s2 with heap := s2.heap.push { cls := .type "list", data := .seq ([] : List Value).toArray } } : Shared) = s3
  have I3 : Inv X pins σ (upd H2 D (.lst [])) s3 := by
    rw [← hs3]
    refine I2.laid (t' := s2.toks) (fun b o e => Heap.get?_push_of_some _ e) (Nat.le_of_eq hD) ⟨Nat.zero_le _, [], 0, .nil, ?_⟩
    rw [← hD]
    exact Heap.get?_push_size _ rfl
  have h3 : s3.heap = s2.heap.push { cls := .type "list", data := .seq ([] : List Value).toArray } := by rw [← hs3]
  have sz : ∀ b ∈ fp, b < s2.heap.objs.size := fun b hb => by
    obtain ⟨o, e, _⟩ := T.obj _ _ st2 b hb
    exact Heap.lt_size e
  have f3 : ∀ b ∈ fp, FpOk X pins (upd H2 D (.lst [])) b ∧ b < s3.heap.objs.size := fun b hb => by
    have hlt := sz b hb
    refine ⟨⟨?_, (f2 b hb).2⟩, by rw [h3, Heap.size_push]; exact Nat.lt_succ_of_lt hlt⟩
    rw [upd_ne (by rw [← hD]; exact Nat.ne_of_lt hlt)]
    exact (f2 b hb).1
  have st3 : tn 0 s3.heap := T.keep _ _ _ st2 fun b _ o e => by rw [h3]; exact Heap.get?_push_of_some _ e
  have I4 := block_startH I3 ok hN f3
  have pg := hg s3 (upd H2 D (.lst [])) s3.heap.objs.size (cellsFrom (s3.heap.objs.size + 1) scope.names (cloFrom X.env.cells scope.names [])) fp
  have pt := ht s3 (upd H2 D (.lst [])) s3.heap.objs.size (cellsFrom (s3.heap.objs.size + 1) scope.names (cloFrom X.env.cells scope.names [])) fp
  have pe := he s3 (upd H2 D (.lst [])) s3.heap.objs.size (cellsFrom (s3.heap.objs.size + 1) scope.names (cloFrom X.env.cells scope.names [])) fp
  show codeAny _ _ (.compStart (.ListComp elt [⟨tg, iter, ifs, 0⟩] scope pos) 0 (.ref it) (.ref D) (compEnvC scope (cellsFrom (s3.heap.objs.size + 1) scope.names (cloFrom X.env.cells scope.names [])) s3.heap.objs.size X.env)) (compPost (model X.prog X.w) X.A X.xe use Qf (.ref D) s3.heap.objs.size) { s3 with heap := pushCells (s3.heap.push { cls := .type "dict", data := .dict #[] }) scope.names }
  have nfp : ∀ b ∈ fp, (upd H2 D (.lst [])) b = none := fun b hb => (f3 b hb).1.1
  generalize hce : compEnvC scope (cellsFrom (s3.heap.objs.size + 1) scope.names (cloFrom X.env.cells scope.names [])) s3.heap.objs.size X.env = ce at I4 pg pt pe ⊢
  have cL : ce.locals = s3.heap.objs.size := by subst hce; rfl
  generalize hH3 : upd H2 D (.lst []) = H3 at I3 I4 pg pt pe w0 nfp f3
  generalize hs4 : ({ s3 with heap := pushCells (s3.heap.push { cls := .type "dict", data := .dict #[] }) scope.names } : Shared) = s4 at I4 ⊢
  have st4 : tn 0 s4.heap := T.keep _ _ _ st3 fun b _ o e => by rw [← hs4]; exact pushCells_keeps _ _ _ _ (Heap.get?_push_of_some _ e)
  have stat : ∀ {σ' : L2.St} {H' : Hp} {s' : Shared}, Inv (blkH X pins s3 H3 scope ce fp) [] σ' H' s' → (∀ b ∈ fp, H' b = none) → ∀ b ∈ fp, FpOk (blkH X pins s3 H3 scope ce fp) [] H' b := fun {σ' H' s'} I' hn b hb =>
    ⟨hn b hb, (I'.ok.exf b hb).1, I'.ok.exfs b hb, .inl hb, fun x c e => (I'.ok.exf b hb).2 x c e, fun p hp => (f2 b hb).2.2.2.2.2 p (by
      have hp' : p ∈ (X.pn ++ pins) ++ [] := hp
      rw [List.append_nil] at hp'
      exact hp')⟩
  have loop : codeAny (model X.prog X.w) X.A (.compLoop (.ListComp elt [⟨tg, iter, ifs, 0⟩] scope pos) 0 (.ref it) (.ref D) ce) (compPost (model X.prog X.w) X.A X.xe use Qf (.ref D) s3.heap.objs.size) s4 := by
    refine compLoop_any (fun n s' => ∃ i H', Inv (blkH X pins s3 H3 scope ce fp) [] (wipe σ (own.map (·.2))) H' s' ∧ tn i s'.heap ∧ (∀ b ∈ fp, H' b = none) ∧ W i n H') ?_ m0 ⟨0, H3, I4, st4, nfp, w0⟩
    rintro n s5 ⟨i, H5, I5, st5, n5, w5⟩
    rcases turn i n H5 w5 with ⟨stop, qq⟩ | ⟨go, Nx, hNx, step⟩
    · have td := T.done (blkH X pins s3 H3 scope ce fp) rfl rfl rfl hcB i [] s5 _ H5 (fun _ _ => False) I5 (stat I5 n5) st5 stop
      refine thnF td fun r s6 ⟨hr, I6⟩ => ?_
      subst hr
      have I7 : Inv X pins σ H5 s6 := I3.call' (ch := fp) I6.os I6.base I6.hok I6.bare fun b hb => ⟨(f3 b hb).1.2.2.2.1, (f3 b hb).1.2.1, (f3 b hb).1.2.2.2.2.1, (f3 b hb).1.2.2.2.2.2⟩
      have nC : H5 s3.heap.objs.size = none := by
        have z : H5 ce.locals = none := I6.free
        rw [cL] at z
        exact z
      obtain ⟨m, hn, _⟩ := I6.loc
      have hn : s6.heap.Ns ce.locals m := hn
      rw [cL] at hn
      exact hRR D s3.heap.objs.size s6 m H5 I7 qq hn (I3.fpOk (Nat.le_refl _) nC)
    · have ti := T.item (blkH X pins s3 H3 scope ce fp) rfl rfl rfl hcB i [] s5 _ H5 (fun _ _ => False) I5 (stat I5 n5) st5 go
      refine thnF ti fun r s6 ⟨u, hr, h6⟩ => ?_
      subst hr
      refine thnF h6 fun _ s7 ⟨x, H7, I7, r7, y7, st7, n7⟩ => ?_
      have I7' := I7.pinned (stat I7 n7) (T.obj _ _ st7)
      refine thnF (pg.run _ s7 _ H7 x u _ I7' r7 (step x H7 y7)) fun _ s8 ⟨σ8, H8, I8, hw8, q8⟩ => ?_
      refine thnF (pt.run _ s8 σ8 H8 _ I8 q8) fun b s9 ⟨H9, I9, q9⟩ => ?_
      have fin : ∀ {s' : Shared} {H' : Hp}, Inv (blkH X pins s3 H3 scope ce fp) ([] ++ pinsAt fp s7.heap) σ8 H' s' → Nx H' → ∃ m, m < n ∧ ∃ i H', Inv (blkH X pins s3 H3 scope ce fp) [] (wipe σ (own.map (·.2))) H' s' ∧ tn i s'.heap ∧ (∀ b ∈ fp, H' b = none) ∧ W i m H' := fun {s' H'} I' nx => by
        obtain ⟨m', hm, w'⟩ := hNx H' nx
        have pin' : ∀ b ∈ fp, ∀ o, s7.heap.get? b = some o → s'.heap.get? b = some o ∧ H' b = none := fun b hb o e =>
          let z := I'.pin (b, o) (List.mem_append_right _ (List.mem_append_right _ (mem_pinsAt hb e)))
          ⟨z.1, z.2.1⟩
        have hl : (wipe σ (own.map (·.2))).length = σ8.length := by rw [← hw8, wipe_length]
        refine ⟨m', hm, i + 1, H', (I'.unpinned (pins := [])).weak hl (fun j v e => ?_), T.keep _ _ _ st7 fun b hb o e => (pin' b hb o e).1, fun b hb => ?_, w'⟩
        · rw [← hw8] at e
          exact (wipe_some e).1
        · obtain ⟨o, e, _⟩ := T.obj _ _ st7 b hb
          exact (pin' b hb o e).2
      cases b with
      | false =>
        simp only [Bool.false_eq_true, if_false] at q9 ⊢
        exact fin I9 q9
      | true =>
        simp only [if_true] at q9 ⊢
        refine thnF (pe.run _ s9 σ8 H9 _ I9 q9) fun z s10 ⟨yv, H10, I10, r10, acc, hD10, hz10, nx⟩ => ?_
        exact app_ok (X := blkH X pins s3 H3 scope ce fp) I10 hD10 hz10 r10 fun s11 I11 => fin I11 nx
  exact codeAny_compStart_list loop (T.self X.A 0 _ _ _ st4 loop)
end
end VLH
end

section
set_option Elab.async false
set_option linter.all false
set_option maxRecDepth 100000
set_option maxHeartbeats 4000000
/-! except X as n, where a comprehension holds n -/
namespace VLH
open PySem PySem.Spec PyProof.Rows L2 HotX VL
open L2H (HotC TurnH PIH PIEH HotC.at)
section
variable {X : Cx} {pins : List (Addr × Obj)} {σ : L2.St} {H : Hp} {s : Shared}
/-- the cell's name goes -/
theorem gone_okC {M : Model} {A : Around} {E : Value → Shared → Prop} {i : Nat} {n : Str} {pos : Pos} {Q : Unit → Shared → Prop} (I : Inv X pins σ H s) (hN : X.N.Nodup) (hi : X.N[i]? = some n) (hl : X.env.kindOf n = some .cell) (hfn : X.fn n = true)
    (h : ∀ s', Inv X pins (σ.set i none) H s' → Q () s') : wpAny M A (do bindName X.env n .none; unbindBehindTheSuite X.env n pos) Q E s := by
  obtain ⟨m, hn, hlk⟩ := id I.loc
  have cne := I.cne
  obtain ⟨c, hc⟩ := I.ok.has n (.inl hl)
  obtain ⟨w', z⟩ := I.cell n c hc
  obtain ⟨oc, hoc, hocd⟩ := id z
  refine wpAny_bind (wpAny_bindName (wpAny_storeName_cell I.ok.kind hl hc z fun h1 hc1 hs1 => ?_))
  unfold unbindBehindTheSuite
  refine wpAny_onRaise ?_
  unfold unbindName
  refine wpAny_bind (wpAny_point (wpAny_bind ?_))
  unfold deleteName
  simp only [hl]
  refine wpAny_bind (wpAny_cellOf hc (wpAny_bind (wpAny_cellGet hc1 ?_)))
  rw [if_pos (show (some Value.none).isSome = true from rfl)]
  refine wpAny_cellSet hc1 fun h2 hc2 hs2 => wpAny_point ?_
  have hs := hs1.trans hs2
  refine h _ ⟨I.ok, I.os, I.bare, ⟨fun b o e n hb hx => ?_, fun b o e n hb hx => ?_, I.base.free, fun b o e hx => ?_, I.base.tups, I.base.frzs, I.base.tbls⟩, ⟨m, hn.sameBut hs (Ne.symm (cne n c hc)), fun j y v' e1 e2 e3 => ?_⟩, fun y c' e => ?_, I.free, I.freeC, fun p hp => ?_, fun b ob e => ?_, by simpa using I.len⟩
  · exact (hs.2 b (Nat.ne_of_lt (Nat.lt_of_lt_of_le (Heap.lt_size e) (I.ok.cab _ c hfn hc)))).trans (I.base.keep b o e n hb hx)
  · obtain ⟨sl, e1⟩ := I.base.slot b o e n hb hx
    exact ⟨sl, (hs.2 b (Nat.ne_of_lt (Nat.lt_of_lt_of_le (Heap.lt_size e) (I.ok.cab _ c hfn hc)))).trans e1⟩
  · obtain ⟨o', e1⟩ := I.base.there b o e hx
    exact ⟨o', (hs.2 b (Nat.ne_of_lt (Nat.lt_of_lt_of_le (Heap.lt_size e) (I.ok.cab _ c hfn hc)))).trans e1⟩
  · by_cases hj : j = i
    · subst hj
      by_cases hlt : j < σ.length
      · rw [List.getElem?_set_self hlt] at e2; cases e2
      · rw [List.getElem?_eq_none (by simpa using hlt)] at e2; cases e2
    · rw [List.getElem?_set_ne (Ne.symm hj)] at e2
      obtain ⟨u', r', q⟩ := hlk j y v' e1 e2 e3
      refine ⟨u', r', ?_⟩
      rcases q with q | ⟨k, c', e, z'⟩
      · exact .inl q
      · refine .inr ⟨k, c', e, z'.sameBut hs ?_⟩
        rintro rfl
        exact hj (nodup_ix hN e1 (I.ok.inj _ _ _ e hc ▸ hi))
  · by_cases hcc : c' = c
    · subst hcc; exact ⟨_, hc2⟩
    · obtain ⟨w2, z2⟩ := I.cell y c' e
      exact ⟨w2, z2.sameBut hs hcc⟩
  · obtain ⟨e, n, ne, nf, d⟩ := I.pin p hp
    refine ⟨(hs.2 p.1 ?_).trans e, n, ne, nf, d⟩
    intro q
    rw [q, hoc] at e
    have q' : oc = p.2 := Option.some.inj e
    exact d w' (by rw [← q']; exact hocd)
  · refine (I.hok b ob e).stay (fun d w2 hd q => (hs.2 d fun z2 => ?_).trans q) (fun _ q => q) fun _ _ q => q
    have hfree := I.freeC n _ hc
    rw [z2] at hd
    rcases hd with k | k
    · rw [← k, hfree] at e; cases e
    · rw [hfree] at k; cases k
end
section
variable {X : Cx} {x n : Str} {c : Value} {i : Nat} {body suite : List Stmt} {b₀ : Stmt} {np pos pos' : Pos} {tb : WX → TS} {ts : Addr → Value → Option Addr → TS} {Wout : WX}
theorem ps_try_asC (hs : X.stack = X.env :: X.outer) (hf : X.env.frame = some X.env.locals) (hN : X.N.Nodup) (hi : X.N[i]? = some n) (hln : X.env.kindOf n = some .cell) (hfn : X.fn n = true) (hc : Names X x c) (tk : L2N.Takes X Wout)
    (hb : ∀ (W : WX) (pn : List (Addr × Obj)) (xe : Value → Shared → Prop), L2N.Takes (X.tr pn xe) W → PassesOwn (model X.prog X.w) X.A X.env xe → PSs (X.tr pn xe) body (tb W))
    (hsu : ∀ (a : Addr) (oe : Obj) (cls : Value) (d : Option Addr) (pn : List (Addr × Obj)), L2N.Zn cls d oe → (∃ vs, oe.data = .fields vs) → PSs (X.suite a ((a, oe) :: pn)) (b₀ :: suite) (ts a cls d)) :
    PS X (.Try body [.ExceptHandler (some (.Name x np)) (some n) (b₀ :: suite) pos'] [] [] pos) (fun D σ H => tb (wAs X.K c i ts Wout D) D σ H) := by
  refine ⟨fun pins s σ H D I h => ?_⟩
  have ok := I.ok
  have hfr : X.A.frames = some (X.env :: X.outer) := by rw [ok.frames, hs]
  have hloc : Loc X.env.scope n := .inr hln
  refine wpAny_Try_except ?_
  refine wpAny_mono ((hb (wAs X.K c i ts Wout D) (X.pn ++ pins) (fun e s₁ => wpAny (model X.prog X.w) X.A (noteFrame e X.env) (fun _ s₂ => wpAny (model X.prog X.w) X.A (setFlight e none) (fun _ s₃ =>
    wpAny (model X.prog X.w) X.A (handleBy e X.env [.ExceptHandler (some (.Name x np)) (some n) (b₀ :: suite) pos']) (SP X pins D) X.xe s₃) X.xe s₂) X.xe s₁) (fun u s' xx => ?_) PassesOwn.looking).run [] s σ H D (I.toTry _) h) (fun f s1 hsp => ?_) (fun e s1 he => he)
  · -- the catch
    obtain ⟨a, B, sI, pins', σ', H', cls, d, rfl, J', nb, up, sky, na, os, ag, b, hb1, hyes, hno⟩ := xx
    have J : Inv X pins σ' H' sI := J'.ofTry ok
    have sky' : Sky B (X.env :: X.outer) a (L2N.Zn cls d) X.env.locals s'.heap := by rw [← hs]; exact sky
    show wpAny (model X.prog X.w) X.A (noteFrame (.ref a) X.env) _ _ _
    refine L2N.Sky.land L2N.Zn.steady hfr hf sky' fun h3 fl3 up3 => ?_
    have J3 : Inv X pins σ' H' { s' with heap := h3 } := J.landed nb fl3.1 (up.trans up3) os ag
    obtain ⟨oe3, vs3, he3, hz3, hd3⟩ := fl3.there
    have notFr : ∀ {h : Heap} {o : Obj} {vs : Array Value}, h.FunFrames B (X.env :: X.outer) → h.get? a = some o → o.data = .fields vs → a ∉ frs (X.env :: X.outer) := fun {h o vs} ff e dd hm => by
      obtain ⟨_, o', e', hnf⟩ := ff.mem hm
      rw [e] at e'; cases e'
      exact hnf _ dd
    have nfr := notFr fl3.2.2.1 he3 hd3
    have nL : a ≠ X.env.locals := fun z => nfr (List.mem_filterMap.mpr ⟨X.env, List.mem_cons_self, by rw [hf, z]⟩)
    have nF : a ∉ X.fs := fun hm => by
      obtain ⟨e, he, q⟩ := List.mem_filterMap.mp hm
      exact nfr (List.mem_filterMap.mpr ⟨e, List.mem_cons_of_mem _ he, q⟩)
    have S3 := J3.suite he3 hd3 na nL nF
    refine wpAny_handleBy_cons (codeAny_handlers_test ?_) (by intro q; cases q)
    have LT : PySem.W.Looks (model X.prog X.w) h3 (typeOf (.ref a)) cls := fun A Q E s k q => wpAny_typeOf_ref (k _ _ he3) (by rw [hz3.1]; exact q)
    have LM := PySem.W.exm_one (M := model X.prog X.w) (J3.kIn) LT hb1
    have test : ∀ {Q : Value → Shared → Prop} {E : Value → Shared → Prop}, Q c { s' with heap := h3 } → wpAny (model X.prog X.w) (X.A.mark (some (.ref a))) (eval (.Name x np) X.env) Q E { s' with heap := h3 } := fun {Q E} q => by
      obtain ⟨hg, hdbg, hm | ⟨hm, hv, hnn⟩⟩ := hc
      · exact ld_glob (X := X.suite a ((a, oe3) :: (X.pn ++ pins))) S3 hg hm q hdbg
      · exact ld_blt (X := X.suite a ((a, oe3) :: (X.pn ++ pins))) S3 hg hm hv q hnn hdbg
    refine test (LM.here ?_)
    cases b with
    | true =>
      refine codeAny_handlers_suite_as ?_
      refine HandSPX.lands_againZ fl3 fun h4 fl4 up4 => ?_
      have J4 : Inv X pins σ' H' { s' with heap := h4 } := J.landed nb fl4.1 ((up.trans up3).trans up4) os ag
      obtain ⟨oe4, vs4, he4, hz4, hd4⟩ := fl4.there
      have S4 := J4.suite he4 hd4 na nL nF
      refine store_ok (X := X.suite a ((a, oe4) :: (X.pn ++ pins))) (v := .ref a) S4 hN hi hloc rfl (fun s5 S5 => ?_) (.inl hfn)
      refine wpAny_mono ((hsu a oe4 cls d (X.pn ++ pins) hz4 ⟨_, hd4⟩).run [] s5 _ H' _ S5 (hyes rfl a na)) (fun f s6 hsp => ?_) (fun _ _ z => False.elim z)
      have end_ : ∀ {σ6 : L2.St} {H6 : Hp} {Q : Shared → Prop}, Inv (X.suite a ((a, oe4) :: (X.pn ++ pins))) [] σ6 H6 s6 → (∀ s7, Inv X pins (σ6.set i none) H6 s7 → Q s7) →
          wpAny (model X.prog X.w) X.A (do bindName X.env n .none; unbindBehindTheSuite X.env n pos') (fun _ s7 => Q s7) X.xe s6 := fun {σ6 H6 Q} S6 hq => gone_okC (S6.unsuite ok) hN hi hln hfn hq
      cases f with
      | next =>
        obtain ⟨σ6, H6, S6, q6⟩ := hsp
        exact end_ S6 fun s7 J7 => ⟨_, _, J7, q6⟩
      | brk =>
        obtain ⟨σ6, H6, S6, q6⟩ := hsp
        exact end_ S6 fun s7 J7 => ⟨_, _, J7, q6⟩
      | cont =>
        obtain ⟨σ6, H6, S6, q6⟩ := hsp
        exact end_ S6 fun s7 J7 => ⟨_, _, J7, q6⟩
      | ret u =>
        obtain ⟨v6, σ6, H6, S6, r6, q6⟩ := hsp
        exact end_ S6 fun s7 J7 => ⟨_, _, _, J7, r6, q6⟩
    | false =>
      show wpAny _ X.A (handleBy (.ref a) X.env []) _ _ _
      refine wpAny_handleBy_nil ?_
      obtain ⟨k1, k2, k3, oe, vs, T, oT, ts', he, hz, hd, h1, hr⟩ := id fl3
      unfold PySem.passOn
      refine wpAny_bind (wpAny_field he hd h1 ?_)
      rw [if_neg (show ¬ ((Value.ref T == Value.none) = true) from by simp)]
      have fin : wpAny (model X.prog X.w) X.A (setFlight (.ref a) X.env.frame) (fun _ s4 => wpAny (model X.prog X.w) X.A (throw (.ref a) : Sem Flow) (SP X pins D) X.xe s4) X.xe { s' with heap := h3 } := by
        rw [hf]
        refine HandSPX.setFlight_upZ fl3 fun h4 hh4 up4 => wpAny_throw (tk _ _ ?_)
        exact ⟨a, B, sI, pins, σ', H', cls, d, rfl, J, nb, (up.trans up3).trans up4, .inr (.inr (by rw [hs]; exact hh4)), na, os, ag, hno rfl⟩
      first
        | exact wpAny_bind (wpAny_pure (wpAny_bind fin))
        | exact wpAny_bind fin
  · cases f with
    | next =>
      obtain ⟨σ', H', J', q⟩ := hsp
      exact wpAny_execs_nil ⟨σ', H', J'.ofTry ok, q⟩
    | brk =>
      obtain ⟨σ', H', J', q⟩ := hsp
      exact ⟨σ', H', J'.ofTry ok, q⟩
    | cont =>
      obtain ⟨σ', H', J', q⟩ := hsp
      exact ⟨σ', H', J'.ofTry ok, q⟩
    | ret u =>
      obtain ⟨v, σ', H', J', r, q⟩ := hsp
      exact ⟨v, σ', H', J'.ofTry ok, r, q⟩
end
end VLH
end

section
set_option Elab.async false
set_option linter.all false
set_option maxRecDepth 100000
set_option maxHeartbeats 4000000
/-! the except suite in the words of the layer -/
namespace VLH
open PySem PySem.Spec PyProof.Rows L2 HotX VL
open L2H (HotC TurnH PIH PIEH HotC.at Hot1)
/-! ### isinstance of the caught exception -/
structure ExcD (K : PySem.W.Frag) (D : Addr) : Prop where
  cl : (PySem.W.clsIn K D).isSome = true
  ga : PySem.W.findIn K (.ref D) "__getattribute__" = some (some (.builtin "BaseException.__getattribute__"))
  gt : PySem.W.findIn K (.ref D) "__getattr__" = some none
  sb : PySem.W.subIn K (.ref D) (.type "BaseException") = some true
  ca : PySem.W.findIn K (.ref D) "__class__" = some (some (.builtin "object.__class__"))
  gs : PySem.W.specialIn K (.builtin "object.__class__") "__get__" = some (some (.builtin "getset_descriptor.__get__"))
  tk : PySem.W.takesIn K (.builtin "object.__class__") = some true
  mr : PySem.W.mroIn K D (.type "object") = some true
def rIsD (K : PySem.W.Frag) (a : Addr) (D : Addr) (d : Option Addr) : List V → Hp → VK → Prop := fun xs H Q => (d = none ∨ ∃ dd fs, d = some dd ∧ H dd = some (.xd fs)) ∧ ∃ (c : V) (cv : Value) (b : Bool), xs = [.ref a, c] ∧ (∀ u, RelV c u → u = cv) ∧ PySem.W.kitOne K (.ref D) cv = some b ∧ Q (.bl b) H
theorem call_isD {Z : Cx} {a D : Addr} {oe : Obj} {d : Option Addr} (hp : (a, oe) ∈ Z.pn) (C : ExcD Z.K D) (hz : Zc (.ref D) d oe) (hf : ∃ vs, oe.data = .fields vs) : CallR Z (.builtin "isinstance") (rIsD Z.K a D d) := by
  intro pins s σ H xs us Q I r h
  obtain ⟨hd, c, cv, b, rfl, hcv, e, q⟩ := h
  cases r with
  | cons rx rr =>
    cases rr with
    | cons rt rr =>
      cases rr
      cases rx
      have ec := hcv _ rt
      subst ec
      obtain ⟨hget, _⟩ := I.pin (a, oe) (List.mem_append.mpr (.inl hp))
      obtain ⟨vs, hv⟩ := hf
      have J : ∃ od, PySem.W.InstAt s.heap a oe D od := by
        rcases hd with hd | ⟨dd, fs, hd, hx⟩
        · refine ⟨none, hget, hz.1, by unfold PySem.W.notCls; rw [hv] <;> rfl, ?_⟩
          rw [hz.2, hd]
          trivial
        · have hx' : ObjOk Z.prog Z.w H s.heap dd (.xd fs) := I.hok dd _ hx
          obtain ⟨mA, hns, hr⟩ := hx'
          obtain ⟨od, ho, hl⟩ := lookIn_ns hns
          refine ⟨some od, hget, hz.1, by unfold PySem.W.notCls; rw [hv] <;> rfl, ?_⟩
          rw [hz.2, hd]
          exact ho
      obtain ⟨od, J⟩ := J
      exact PySem.W.kia_one (PySem.W.kitx_exc C.cl C.ga C.gt C.sb C.ca C.gs C.tk C.mr) I.kIn J e (fun z => nomatch z) fun tk => ⟨.bl b, H, I.kept (t' := tk) fun _ _ z => z, rfl, q⟩
/-- the caught exception as a datum -/
def exD (a : Addr) (dd : Option Addr) (fs : List (Str × VL.D)) : VL.D := match dd with
  | none => .adr a
  | some dx => .exc a dx fs
theorem rep_exD {K : PySem.W.Frag} {H : Hp} {a : Addr} {dd : Option Addr} {C : Addr} {fs : List (Str × VL.D)} {cls : Value} (h : ErRep K H cls dd ⟨C, fs⟩) : Rep K H (.ref a) (exD a dd fs) := by
  obtain ⟨_, ⟨_, e⟩ | ⟨dx, fvs, e, h1, h2⟩⟩ := h
  · subst e
    exact .adr a
  · subst e
    exact .exc h1 h2
theorem exD_ref {K : PySem.W.Frag} {H : Hp} {a : Addr} {dd : Option Addr} {fs : List (Str × VL.D)} {v : V} (h : Rep K H v (exD a dd fs)) : v = .ref a ∧ (dd = none ∨ ∃ d fs, dd = some d ∧ H d = some (.xd fs)) := by
  cases dd with
  | none => cases h; exact ⟨rfl, .inl rfl⟩
  | some dx => cases h with
    | exc h1 h2 => exact ⟨rfl, .inr ⟨_, _, rfl, h1⟩⟩
section
variable {Z : Cx} {e b : Expr} {ρ ρ1 ρ2 : Lo} {pos p : Pos} {a D : Addr} {oe : Obj} {dd : Option Addr} {fs : List (Str × VL.D)}
theorem c_isD {y : VL.D} {cv : Value} {k : Bool} (hp : (a, oe) ∈ Z.pn) (C : ExcD Z.K D) (hz : Zc (.ref D) dd oe) (hf : ∃ vs, oe.data = .fields vs) (hy : ∀ H v, Rep Z.K H v y → ∀ u, RelV v u → u = cv) (hm : Z.mg "isinstance" = none) (he : CE Z ρ e (exD a dd fs) ρ1) (hb : CE Z ρ1 b y ρ2) (hk : PySem.W.kitOne Z.K (.ref D) cv = some k) (hg : Gl Z "isinstance" := by rfl)
    (hs : starEach [e, b] Z.env = (false, eval e Z.env) :: starEach [b] Z.env := by rfl) (hpl : (backTo pos (starEach [b] Z.env)).any (·.1) = false := by rfl)
    (he2 : starEach [b] Z.env = (false, eval b Z.env) :: starEach [] Z.env := by rfl) : CE Z ρ (.Call (.Name "isinstance" p) [e, b] [] pos) (.bl k) ρ2 :=
  c_blt (call_isD hp C hz hf) (fun F O ρ σ H vs Q I r q => by
    obtain ⟨v, w, rfl, r1, r2⟩ := two_of r
    obtain ⟨rfl, hd⟩ := exD_ref r1
    exact ⟨hd.imp id fun ⟨d, f, e1, e2⟩ => ⟨d, f, e1, hid_ex _ _ e2⟩, w, cv, k, rfl, hy _ _ r2, hk, q _ _ I (.bl _)⟩) hm (by decide +kernel) (d_cons he (d_cons hb d_nil he2) hs) hg (he := hs) (hpl := hpl)
theorem rel_adr {K : PySem.W.Frag} {C : Addr} : ∀ (H : Hp) (v : V), Rep K H v (.adr C) → ∀ u, RelV v u → u = .ref C := fun H v r u h => by
  cases r
  exact h
theorem rel_ty {K : PySem.W.Frag} {T : String} : ∀ (H : Hp) (v : V), Rep K H v (.ty T) → ∀ u, RelV v u → u = .type T := fun H v r u h => by
  cases r
  exact h
theorem repF_lookup {K : PySem.W.Frag} {H : Hp} {n : Str} {d : VL.D} : ∀ {fvs : List (Str × V)} {fs : List (Str × VL.D)}, RepF K H fvs fs → fs.lookup n = some d → ∃ v, fvs.lookup n = some v ∧ Rep K H v d
  | _, _, .nil, h => by cases h
  | _, _, .cons (k := k) h1 h2, h => by
    rw [List.lookup_cons] at h
    rw [List.lookup_cons]
    cases q : n == k with
    | true => rw [q] at h; cases h; exact ⟨_, rfl, h1⟩
    | false => rw [q] at h; exact repF_lookup h2 h
/-- error.n -/
theorem c_xf {X : Cx} {C : Addr} {n : Str} {pn : List (Addr × Obj)} {d : VL.D} {dx : Addr} (T : XfC X.K C) (hno : PySem.W.findIn X.K (.ref C) n = some none) (hz : Zc (.ref C) (some dx) oe) (hf : ∃ vs, oe.data = .fields vs)
    (he : CE (X.suite a ((a, oe) :: pn)) ρ e (.exc a dx fs) ρ1) (hl : fs.lookup n = some d) (hb : attributeBase e n X.env (eval e X.env) = eval e X.env := by rfl) : CE (X.suite a ((a, oe) :: pn)) ρ (.Attribute e n pos) d ρ1 :=
  .of (pe_xf T hno hz hf pe_tw hb) ⟨he.1, fun F O σ H Q I q => he.2 F O σ H _ I fun v H1 J r => by
    cases r with
    | exc h1 h2 =>
      obtain ⟨u, e1, e2⟩ := repF_lookup h2 hl
      exact ⟨rfl, rfl, _, _, u, rfl, hid_ex _ _ h1, e1, q _ _ J e2⟩⟩
end

/-! ### the comprehension there -/
section
variable {X : Cx} {e a b c tg elt iter : Expr} {es ifs : List Expr} {ρ ρ1 ρ2 ρ3 ρ' : Lo} {x y d : VL.D} {pos p p2 : Pos} {ds es' : List VL.D} {scope : Scope} {own : List (Str × Nat)}
theorem pe_lcH {wi : TI} {g : TG} {tt : TT} {te : TE} (hc : HotC X) (hN : X.N.Nodup) (hi : PIH X tg iter wi) (ok : BlkOk X.N X.env.scope scope own)
    (hg : ∀ (pins : List (Addr × Obj)) (s : Shared) (H : Hp) (C : Addr) (cl : List (Str × Addr)) (fp : List Addr), PG (blkH X pins s H scope (compEnvC scope cl C X.env) fp) tg g) (ht : ∀ (pins : List (Addr × Obj)) (s : Shared) (H : Hp) (C : Addr) (cl : List (Str × Addr)) (fp : List Addr), PTs (blkH X pins s H scope (compEnvC scope cl C X.env) fp) ifs tt)
    (he : ∀ (pins : List (Addr × Obj)) (s : Shared) (H : Hp) (C : Addr) (cl : List (Str × Addr)) (fp : List Addr), PE (blkH X pins s H scope (compEnvC scope cl C X.env) fp) elt te) (hs : ∀ x, foldedSetIterable iter X.env x = pure x := by intro _; rfl) :
    PE X (.ListComp elt [⟨tg, iter, ifs, 0⟩] scope pos) (tLc wi g tt te (own.map (·.2))) := by
  refine ⟨fun pins s σ H Q I h => ?_⟩
  rw [eval_ListComp]
  refine lc_coreH hc hN I hi ok (hg pins) (ht pins) (he pins) hs h fun D C s' m H' I' q hn f => ⟨m, hn, fun h'' sb => ?_⟩
  obtain ⟨f0, f1, f2, f3, f4, f5⟩ := f
  exact ⟨.ref D, H', I'.turned (t' := s'.toks) (fun b o hb e => (sb.2 b hb).trans e) f0 f1 f3 f4 f5, rfl, q⟩
theorem ps_setLcH {i : Nat} {y : Str} {py spos : Pos} {wi : TI} {g : TG} {tt : TT} {te : TE} (hc : HotC X) (hN : X.N.Nodup) (hy : X.N[i]? = some y) (hyl : X.env.scope.names.lookup y = some .local)
    (hsw : swapsWith (.ListComp elt [⟨tg, iter, ifs, 0⟩] scope pos) (some (.Name y py)) spos.line X.env = pure true) (hi : PIH X tg iter wi) (ok : BlkOk X.N X.env.scope scope own)
    (hg : ∀ (pins : List (Addr × Obj)) (s : Shared) (H : Hp) (C : Addr) (cl : List (Str × Addr)) (fp : List Addr), PG (blkH X pins s H scope (compEnvC scope cl C X.env) fp) tg g) (ht : ∀ (pins : List (Addr × Obj)) (s : Shared) (H : Hp) (C : Addr) (cl : List (Str × Addr)) (fp : List Addr), PTs (blkH X pins s H scope (compEnvC scope cl C X.env) fp) ifs tt)
    (he : ∀ (pins : List (Addr × Obj)) (s : Shared) (H : Hp) (C : Addr) (cl : List (Str × Addr)) (fp : List Addr), PE (blkH X pins s H scope (compEnvC scope cl C X.env) fp) elt te) (hs : ∀ x, foldedSetIterable iter X.env x = pure x := by intro _; rfl) :
    PS X (.Assign [.Name y py] (.ListComp elt [⟨tg, iter, ifs, 0⟩] scope pos) spos) (tAsg (tLc wi g tt te (own.map (·.2))) (gName i)) := by
  refine ⟨fun pins s σ H D I h => ?_⟩
  rw [exec_Assign_Name_used _ _ _ _ hsw]
  refine wpAny_bind (wpAny_standAt (wpAny_bind ?_))
  show wpAny _ X.A (do let _ ← comprehension (.ListComp elt [⟨tg, iter, ifs, 0⟩] scope pos) scope X.env (firstIterPos [⟨tg, iter, ifs, 0⟩] pos) (newList []) false (eval iter X.env) (some (assign (.Name y py) X.env))) _ _ s
  have h : tLc wi g tt te (own.map (·.2)) σ H (fun x H1 => gName i x σ H1 D.nx) := h
  refine wpAny_bind (thn (lc_coreH (Qf := fun _ s' => SP X pins D .next s') hc hN I hi ok (hg pins) (ht pins) (he pins) hs h fun L C s' m H' I' q hn f => ?_) fun _ s' hq => wpAny_pure (wpAny_pure hq))
  show wpAny _ _ (assign (.Name y py) X.env (.ref L)) _ _ _
  refine wpAny_assign_Name (store_ok2 (v := V.ref L) I' hN hy (.inl hyl) rfl (fun s2 I2 ⟨a, sb, ha⟩ => ?_) (.inr hyl))
  obtain ⟨f0, f1, f2, f3, f4, f5⟩ := f
  have haC : C ≠ a := by
    rcases ha with z | z
    · rw [z]; exact f1
    · exact fun e => f4 y a z e.symm
  refine ⟨m, hn.sameBut sb haC, fun h3 sb3 => ?_⟩
  exact ⟨_, H', I2.turned (t' := s2.toks) (fun b o hb e => (sb3.2 b hb).trans e) f0 f1 f3 f4 f5, q⟩
abbrev InBH (X : Cx) (scope : Scope) (P : Cx → Prop) : Prop := ∀ (pins : List (Addr × Obj)) (s : Shared) (H' : Hp) (C : Addr) (cl : List (Str × Addr)) (fp : List Addr), P (blkH X pins s H' scope (compEnvC scope cl C X.env) fp)
def twBH (X : Cx) (scope : Scope) (e : Expr) : TE := fun σ H Q => InBH X scope fun Y => tw Y e σ H Q
def twTBH (X : Cx) (scope : Scope) (e : Expr) : TT := fun σ H Q => InBH X scope fun Y => twT Y e σ H Q
theorem pe_twBH {pins : List (Addr × Obj)} {s : Shared} {H' : Hp} {C : Addr} {cl : List (Str × Addr)} {fp : List Addr} : PE (blkH X pins s H' scope (compEnvC scope cl C X.env) fp) e (twBH X scope e) := ⟨fun q s σ H Q I h => h _ _ _ _ _ _ q s I⟩
theorem pt_twBH {pins : List (Addr × Obj)} {s : Shared} {H' : Hp} {C : Addr} {cl : List (Str × Addr)} {fp : List Addr} : PT (blkH X pins s H' scope (compEnvC scope cl C X.env) fp) e (twTBH X scope e) := ⟨fun q s σ H Q I h => h _ _ _ _ _ _ q s I⟩
theorem ev_twBH (h : InBH X scope fun Y => CE Y ρ e d ρ1) (ho : owns ρ1 = owns ρ) : EV X.K (twBH X scope e) ρ d ρ1 := ⟨ho, fun F O σ H Q I q pins s H' C cl fp => (h pins s H' C cl fp).2 F O σ H Q I q⟩
theorem et_twBH {k : Bool} (h : InBH X scope fun Y => CT Y ρ e k ρ1) (ho : owns ρ1 = owns ρ) : ET X.K (twTBH X scope e) ρ k ρ1 := ⟨ho, fun F O σ H Q I q pins s H' C cl fp => (h pins s H' C cl fp).2 F O σ H Q I q⟩
/-- [elt for tg in e if cond], e a list -/
theorem l_lcH {T : Tg} {cond : Expr} (f : VL.D → VL.D) (g : VL.D → Bool) (ha : CE X ρ e (.lst ds) ρ1) (own : List (Str × Nat)) (hc : HotC X) (hN : X.N.Nodup) (ok : BlkOk X.N X.env.scope scope own) (hg : InBH X scope fun Y => PG Y tg (gOf X.K T)) (hT : ∀ k ∈ T.slots, k ∈ own.map (·.2)) (hn : noMut ρ1 (own.map (·.2)))
    (hs : ∀ (i : Nat) d, ds[i]? = some d → ∃ ρ2, Bind T d (wipeL ρ1 (own.map (·.2))) ρ2 ∧ (∀ (k : Nat) p es, ρ1[k]? = some (.mut p es) → ρ2[k]? = some (.mut p es)) ∧ (InBH X scope fun Y => CT Y ρ2 cond (g d) ρ2) ∧ (g d = true → InBH X scope fun Y => CE Y ρ2 elt (f d) ρ2))
    (hl : ds.length < sizeLine) (hfs : ∀ x, foldedSetIterable e X.env x = pure x := by intro _; rfl) : CL X ρ elt tg e [cond] scope ((ds.filter g).map f) ρ1 := by
  refine ⟨_, fun pos => pe_lcH hc hN (pi_listH pe_tw) ok hg (fun _ _ _ _ _ _ => pts_one pt_twBH) (fun _ _ _ _ _ _ => pe_twBH) hfs, fun i y py pos spos hy hyl hsw => ps_setLcH hc hN hy hyl hsw (pi_listH pe_tw) ok hg (fun _ _ _ _ _ _ => pts_one pt_twBH) (fun _ _ _ _ _ _ => pe_twBH) hfs, en_lcR (T := T) (tt := twTBH X scope cond) (te := twBH X scope elt) ha.1
    (fun F O σ H R I k => ha.2 F O σ H _ I fun v H1 J r => by
      cases r with
      | lst h1 rs => exact ⟨_, rfl, ⟨_, .of (hid_ex _ _ h1)⟩, k _ H1 J (wk_list h1 rs)⟩)
    (fun i ρi acc => ρi = ρ1 ∧ acc = ((ds.take i).filter g).map f) hT hn ⟨rfl, rfl⟩ (fun i d ρi acc hd _ hJ => ?_) (fun ρn acc _ hJ => ⟨hJ.1, by rw [hJ.2, List.take_length]⟩) rfl⟩
  obtain ⟨rfl, rfl⟩ := hJ
  obtain ⟨ρ2, hb, hm, ht, he⟩ := hs i d hd
  have hi : i < ds.length := (List.getElem?_eq_some_iff.mp hd).1
  have tk : ds.take (i + 1) = ds.take i ++ [d] := by rw [List.take_add_one, hd]; rfl
  refine ⟨ρ2, g d, ρ2, hb, et_twBH ht rfl, fun hk => ⟨f d, ρ2, ρi, ev_twBH (he hk) rfl, Like.refl, hm, ?_, rfl, ?_⟩, fun hk => ⟨ρi, Like.refl, hm, rfl, ?_⟩⟩
  · rw [List.length_map]
    exact Nat.lt_of_le_of_lt (Nat.le_trans (List.length_filter_le _ _) (by rw [List.length_take]; omega)) hl
  · rw [tk, List.filter_append, List.map_append]
    simp [hk]
  · rw [tk, List.filter_append, List.map_append]
    simp [hk]
theorem tg_tpH {Y : Cx} {es : List Expr} {k : Nat} {l : List Tg} (hc : HotC Y) (h : PGs Y es (gsOf Y.K l)) (hn : (assignEach es Y.env).length = l.length := by rfl) (hst : (assignEach es Y.env).findIdx? (·.1) = none := by rfl) : PG Y (.Tuple es k pos) (gOf Y.K (.tp l)) := pg_tupH hc h hn hst
end
end VLH
end

section
set_option Elab.async false
set_option linter.all false
set_option maxRecDepth 100000
set_option maxHeartbeats 4000000
/-! a lambda handed to a def that calls it in a try -/
namespace VLH
open PySem PySem.Spec PyProof.Rows L2 HotX VL LamX
open L2H (HotC TurnH PIH PIEH HotC.at Hot1)
/-- the context of the lambda's body -/
abbrev lamCxN (X : Cx) (A : Around) (outer : List Env) (s : Shared) (H : Hp) (E : XK) (scope : Scope) (f c' : Addr) : Cx :=
  (lamCx X A outer s H E scope f c').wish fun e s' => wpAny (model X.prog X.w) (A.deeper (lamEnv X scope s.heap.objs.size f c')) (leaving (lamEnv X scope s.heap.objs.size f c') e) (fun _ s'' => L2N.CX X.prog X.w outer H s E e s'') (fun e' s'' => L2N.CX X.prog X.w outer H s E e' s'') s'
theorem takes_lam {X : Cx} {A : Around} {outer : List Env} {s : Shared} {H : Hp} {E : XK} {scope : Scope} {f c' : Addr} : L2N.Takes (lamCxN X A outer s H E scope f c') (fun cls d _ H => E cls d H) := L2N.takes_of rfl rfl rfl rfl
section
variable {X : Cx} {pins : List (Addr × Obj)} {σ : L2.St} {H HZ : Hp} {s s1 : Shared}
/-- x(), in the def that got the lambda -/
theorem pe_actN {CXg : CXT} {Eg : XK} {Ng : List Str} {qg : Str} {sg : Scope} {g f c' : Addr} {cdg pm ctv : Value} {params : Arguments} {body : Expr} {scope : Scope} {k i : Nat} {a : Str} {pn : List (Addr × Obj)} {xe : Value → Shared → Prop} {W : WX} {E : XK} {tb : TE} {p1 p2 : Pos}
    (I : Inv X pins σ H s) (L : LamS X.env.scope scope) (hf : s.heap.get? f = some (PySem.W.kla_obj "<lambda>" (X.env.qual ++ "<lambda>") params body scope (cloFrom X.env.cells scope.names []) pm c' ctv)) (hfn : H f = none) (hfr : f ∉ frs X.stack)
    (hbind : bindArgs (PySem.W.kla_fn "<lambda>" (X.env.qual ++ "<lambda>") params body scope (cloFrom X.env.cells scope.names []) pm (.ref c') ctv) ⟨[], []⟩ = pure [])
    (tk : L2N.Takes ((cxOf CXg X.prog X.w X.K X.mg X.base Ng qg sg g cdg X.A X.stack s H Eg).tr pn xe) W) (hW : ∀ cls d σ' H', E cls d H' → W cls d σ' H') (hr : Room (k + 1) (X.A.deeper (envOfC qg sg s.heap.objs.size g cdg)))
    (hbody : ∀ (A : Around) (outer : List Env) (s : Shared) (H : Hp), Room k (A.deeper (lamEnv X scope s.heap.objs.size f c')) → PE (lamCxN X A outer s H E scope f c') body tb)
    (hN : Ng[i]? = some a) (hv : Vis sg a) (hd : (a == ("__debug__" : Str)) = false := by decide) (hcd : (a == ("__classdict__" : Str)) = false := by decide) :
    PE ((cxOf CXg X.prog X.w X.K X.mg X.base Ng qg sg g cdg X.A X.stack s H Eg).tr pn xe) (.Call (.Name a p1) [] [] p2)
      (fun σZ HZ Q => σZ[i]? = some (some (.ref f)) ∧ HZ c' = some (CodeO c' (X.env.qual ++ "<lambda>")) ∧ tb σ HZ Q) := by
  refine ⟨fun pinsZ sZ σZ HZ Q IZ h => ?_⟩
  obtain ⟨hs, hc, ht⟩ := h
  refine wpAny_Call_Name_kw (thn ((pe_var (pos := p1) (i := i) hN hv hd hcd).run pinsZ sZ σZ HZ (fun v H1 => v = .ref f ∧ H1 = HZ) IZ ⟨.ref f, hs, rfl, rfl⟩) fun u s1 ⟨v, H1, I1, r1, q1⟩ => ?_)
  obtain ⟨ev, eH⟩ := q1
  subst ev
  rw [eH] at I1
  obtain rfl : u = Value.ref f := r1
  have of1 : s1.heap.get? f = some (PySem.W.kla_obj "<lambda>" (X.env.qual ++ "<lambda>") params body scope (cloFrom X.env.cells scope.names []) pm c' ctv) := I1.base.keep f _ hf hfn hfr (fun z => nomatch (show f ∈ ([] : List Addr) from z))
  refine PySem.W.callWith_F0 ⟨_, _, _, _, of1⟩ ?_
  have un : Un (frs X.stack) [] H HZ s.heap s1.heap := I1.base
  obtain ⟨⟨oc, vs, t, hoc, hdc, hvc⟩, _, _⟩ := I1.hok c' _ hc
  have rc : codeAny (model X.prog X.w) (X.A.deeper (envOfC qg sg s.heap.objs.size g cdg)) (.call (.ref f) ⟨[], []⟩) (CR (L2N.CX X.prog X.w) (envOfC qg sg s.heap.objs.size g cdg :: X.stack) X.prog X.w HZ s1 Q E) s1 := by
    refine PySem.W.kla_callFunE hr.depth of1 rfl L.co L.gen rfl ⟨c', oc, vs, t, rfl, hoc, hdc, hvc⟩ ?_
    rw [hbind]
    refine wpAny_pure (wpAny_newFunctionEnv (fun y hy => (L.own y hy).2) (fun y hy => absurd hy (by simp)) (fun h₁ hns hsb => ⟨I1.nolimit.fresh _ hsb, ?_⟩) L.kind)
    show codeAny _ _ (.expr body (lamEnv X scope s1.heap.objs.size f c')) _ _
    have kp : ∀ b o, s1.heap.get? b = some o → h₁.get? b = some o := fun b o e => hsb.extBut b o (Nat.ne_of_lt (Heap.lt_size e)) (Heap.get?_push_of_some _ e)
    have J0 : Inv (lamCx X (X.A.deeper (envOfC qg sg s.heap.objs.size g cdg)) (envOfC qg sg s.heap.objs.size g cdg :: X.stack) s1 HZ E scope f c') [] σ HZ { s1 with heap := h₁, toks := s1.toks + ([] : List (Str × Value)).length } :=
      lam_start2 I L I1.env0 hr.hd un hns kp
    have J : Inv (lamCxN X (X.A.deeper (envOfC qg sg s.heap.objs.size g cdg)) (envOfC qg sg s.heap.objs.size g cdg :: X.stack) s1 HZ E scope f c') [] σ HZ { s1 with heap := h₁, toks := s1.toks + ([] : List (Str × Value)).length } := J0.wish _
    refine PySem.W.kla_codeExpr (wpAny_mono ((hbody _ _ s1 HZ (hr.deeper _)).run [] _ _ HZ Q J ht) (fun v s' hq => ?_) fun e s' hq => hq)
    obtain ⟨w', H', J', rv, q⟩ := hq
    exact ⟨w', H', J'.os, J'.bare, J'.base, J'.hok, rv, q⟩
  have hx : Passes (L2N.CX X.prog X.w) ((cxOf CXg X.prog X.w X.K X.mg X.base Ng qg sg g cdg X.A X.stack s H Eg).tr pn xe) E := L2N.passes_call tk hW
  refine wpAny_call (codeAny_mono rc fun r s' hq => ?_)
  cases r with
  | error e => exact hx pinsZ σZ HZ s1 e s' I1 hq
  | ok fl =>
    cases fl with
    | ret u => exact I1.after hq
    | next => exact False.elim hq
    | brk => exact False.elim hq
    | cont => exact False.elim hq
end
/-- the def that calls what it got: TT: what it makes of the lambda's reading -/
def GivesToN (X : Cx) (Ng : List Str) (x : Str) (sg : Scope) (g : Addr) (cdg : Value) (bg : List Stmt) (a : Str) (q : Str) (TT : (XK → Hp → VK → Prop) → Hp → VK → Prop) : Prop :=
  ∀ (f c' : Addr) (s : Shared) (H : Hp) (Q : VK) (tl : XK → Hp → VK → Prop),
    (∀ (W : WX) (pn : List (Addr × Obj)) (xe : Value → Shared → Prop) (E : XK) (p1 p2 : Pos), L2N.Takes ((cxOf C8.CX0 X.prog X.w X.K X.mg X.base Ng x sg g cdg X.A X.stack s H C8.E0).tr pn xe) W → (∀ cls d σ' H', E cls d H' → W cls d σ' H') →
      PE ((cxOf C8.CX0 X.prog X.w X.K X.mg X.base Ng x sg g cdg X.A X.stack s H C8.E0).tr pn xe) (.Call (.Name a p1) [] [] p2) (fun σZ HZ Q => σZ[0]? = some (some (.ref f)) ∧ HZ c' = some (CodeO c' q) ∧ tl E HZ Q)) →
    H c' = some (CodeO c' q) → TT tl H Q → Room 2 X.A →
    ∃ t, PSs (cxOf C8.CX0 X.prog X.w X.K X.mg X.base Ng x sg g cdg X.A X.stack s H C8.E0).nox bg t ∧ t { nx := fun _ H' => Q .non H', rt := Q } (L2.start Ng [.ref f]) H
section
variable {X : Cx}
/-- x(lambda: body) -/
theorem pe_lamcallN {T : List (Addr × Str)} {TT : (XK → Hp → VK → Prop) → Hp → VK → Prop} {x a : Str} {g c P : Addr} {k : Nat} {pg : Arguments} {bg : List Stmt} {sg : Scope} {dV kV doc pm cdv ct oc : Value} {an od : Option Addr} {osl : Array (Option Value)} {Ng : List Str}
    {params : Arguments} {body : Expr} {scope : Scope} {t : XK → TE} {p lpos pos : Pos} (hg : Gl X x) (hm : X.mg x = some (.ref g)) (hk : PySem.W.keepIn X.K (.ref g) = true)
    (lk : X.K.lookup g = some ⟨oc, od, .func (PySem.W.fnOf x x pg bg sg dV kV doc pm an cdv ct), osl⟩) (hcg : PySem.W.codeIn X.K cdv x = true) (hb : L2.Binds X.K (PySem.W.fnOf x x pg bg sg dV kV doc pm an cdv ct) [a] []) (Sg : FnScope Ng [a] sg) (hNg : Ng[0]? = some a) (hva : Vis sg a)
    (hG : GivesToN X Ng x sg g cdv bg a (X.env.qual ++ "<lambda>") TT)
    (TB : TabB X.base X.mg c P) (hcode : X.env.code = .ref c) (hmT : (P, X.env.qual ++ "<lambda>") ∈ T) (hu : ∀ p ∈ T, p.1 = P → p.2 = X.env.qual ++ "<lambda>") (hr : Room (k + 2) X.A) (L : LamS X.env.scope scope) (hdef : defaultsOf params X.env = ([], []))
    (hbind : ∀ (q : Str) (cl : List (Str × Addr)) (pm cv ctv : Value), bindArgs (PySem.W.kla_fn "<lambda>" q params body scope cl pm cv ctv) ⟨[], []⟩ = pure [])
    (hbody : ∀ (A : Around) (outer : List Env) (s : Shared) (H : Hp) (E : XK) (f c' : Addr), Room k (A.deeper (lamEnv X scope s.heap.objs.size f c')) → PE (lamCxN X A outer s H E scope f c') body (t E))
    (hdb : (x == ("__debug__" : Str)) = false := by decide) (hd : (a == ("__debug__" : Str)) = false := by decide) (hcd : (a == ("__classdict__" : Str)) = false := by decide) :
    PE X (.Call (.Name x p) [.Lambda params body scope lpos] [] pos) (tLam T TT t) := by
  refine ⟨fun pins s σ H Q I h => ?_⟩
  obtain ⟨hT, h⟩ := h
  refine wpAny_Call_Name_kw (ld_glob I hg hm ?_ hdb)
  refine PySem.W.callWith_K (h₀ := X.base) I.ok.mod.kin hk ?_ (by rfl) (by rfl)
  show wpAny _ _ (spliced ((false, eval (.Lambda params body scope lpos) X.env) :: backTo pos (starEach [] X.env))) _ _ s
  refine Calls.spliced_cons (lam_make2 I TB hcode hmT hu hT hdef (L.has I.ok) fun f c' pm' ctv H1 s' I1 eN T1 hf hfn hfr hco => ?_)
  refine Calls.spliced_nil ⟨I1.kIn, ?_⟩
  have rc : codeAny (model X.prog X.w) X.A (.call (.ref g) ⟨[.ref f], []⟩) (CR C8.CX0 X.stack X.prog X.w H1 s' Q C8.E0) s' := by
    refine run_ofS (N := Ng) (ps := [a]) (us := [.ref f]) (vs := [.ref f]) lk hcg Sg hr I1.env0 (hb s' [.ref f] I1.kIn rfl) (.cons rfl .nil) rfl fun hr' => ?_
    obtain ⟨t', ht', hq'⟩ := hG f c' s' H1 Q (fun E H' Q' => t E σ H' Q') (fun W pn xe E p1 p2 tk hW => pe_actN (i := 0) I1 L hf hfn hfr (hbind _ _ _ _ _) tk hW hr' (fun A outer s H hr2 => hbody A outer s H E f c' hr2) hNg hva hd hcd) hco (h H1 eN T1) (hr.mono (by omega))
    exact ⟨t', ht'.nox, hq'⟩
  refine wpAny_call (codeAny_mono rc fun r s2 hq => ?_)
  cases r with
  | error e => exact (show False from hq).elim
  | ok fl =>
    cases fl with
    | ret u => exact I1.after hq
    | next => exact False.elim hq
    | brk => exact False.elim hq
    | cont => exact False.elim hq
end
theorem sok0 {K : PySem.W.Frag} {F : Hp} {O : Addr → Prop} {H : Hp} (fr : Ex F H) (od : ∀ a, O a → ∃ o, F a = some o) (tb : TB H) (ft : ∀ a o, F a = some o → NT o) : SOk K F O [] [] H :=
  ⟨rfl, fun i d h => by simp at h, fun i p ds h => by simp at h, fun i j p ds ds' h => by simp at h, fr, od, tb, ft⟩
/-- in any slots -/
theorem sokU {K : PySem.W.Frag} {F : Hp} {O : Addr → Prop} {H : Hp} {n : Nat} {σ : L2.St} (I : SOk K F O [] [] H) (h : σ.length = n) : SOk K F O (List.replicate n .un) σ H := by
  have no : ∀ {i : Nat} {s : Sl}, (List.replicate n Sl.un)[i]? = some s → s = .un := fun {i s} h => List.eq_of_mem_replicate (List.mem_of_getElem? h)
  exact ⟨by rw [h, List.length_replicate], fun i d h => (by have := no h; cases this), fun i p ds h => (by have := no h; cases this), fun i j p ds ds' h => (by have := no h; cases this), I.fr, I.od, I.tb, I.ft⟩
theorem owns_rep {n : Nat} {a : Addr} : ¬ owns (List.replicate n .un) a := fun ⟨ds, h⟩ => nomatch (List.eq_of_mem_replicate h)
/-- what the lambda does: r0; what the def answers: dW -/
def TTw (K : PySem.W.Frag) (r0 : Res) (dW : VL.D) : (XK → Hp → VK → Prop) → Hp → VK → Prop := fun tl H Q => ∃ (F : Hp) (O : Addr → Prop), SOk K F O [] [] H ∧
  (∀ E Q', (∀ H', SOk K F O [] [] H' → match r0 with
    | .ok d => ∀ v, Rep K (hid O H') v d → Q' v H'
    | .error e => ∀ cls dd, ErRep K (hid O H') cls dd e → E cls dd H') → tl E H Q') ∧
  ∀ v H', SOk K F O [] [] H' → Rep K (hid O H') v dW → Q v H'
def immutR : Res → Bool
  | .ok d => immut d
  | .error e => immutL (e.fs.map (·.2))
theorem RepF.hide {K : PySem.W.Frag} {H : Hp} {U U' : Addr → Prop} (h : ∀ a, ¬ U a → U' a → ∃ vs, H a = some (.lst vs)) : ∀ {v : List (Str × V)} {d : List (Str × VL.D)}, immutL (d.map (·.2)) = true → RepF K (hid U H) v d → RepF K (hid U' H) v d
  | _, _, _, .nil => .nil
  | _, _, m, .cons q r => by
    rw [List.map_cons] at m
    unfold immutL at m
    rw [Bool.and_eq_true] at m
    exact .cons (Rep.hide h m.1 q) (RepF.hide h m.2 r)
section
variable {X : Cx} {ρ : Lo}
/-- x(lambda: body), where the body reads data alone -/
theorem c_lamcall {r0 : Res} {dW : VL.D} {x a : Str} {g c P : Addr} {k : Nat} {pg : Arguments} {bg : List Stmt} {sg : Scope} {dV kV doc pm cdv ct oc : Value} {an od : Option Addr} {osl : Array (Option Value)} {Ng : List Str}
    {params : Arguments} {body : Expr} {scope : Scope} {p lpos pos : Pos} (him : immutR r0 = true) (hiw : immut dW = true) (hm : X.mg x = some (.ref g)) (hk : PySem.W.keepIn X.K (.ref g) = true)
    (lk : X.K.lookup g = some ⟨oc, od, .func (PySem.W.fnOf x x pg bg sg dV kV doc pm an cdv ct), osl⟩) (hcg : PySem.W.codeIn X.K cdv x = true) (hb : L2.Binds X.K (PySem.W.fnOf x x pg bg sg dV kV doc pm an cdv ct) [a] []) (Sg : FnScope Ng [a] sg) (hNg : Ng[0]? = some a) (hva : Vis sg a)
    (hG : GivesToN X Ng x sg g cdv bg a (X.env.qual ++ "<lambda>") (TTw X.K r0 dW))
    (TB : TabB X.base X.mg c P) (hcode : X.env.code = .ref c) (hmT : (P, X.env.qual ++ "<lambda>") ∈ lamT) (hu : ∀ p ∈ lamT, p.1 = P → p.2 = X.env.qual ++ "<lambda>") (hr : Room (k + 2) X.A)
    (hbody : ∀ (A : Around) (outer : List Env) (s : Shared) (H : Hp) (E : XK) (f c' : Addr), Room k (A.deeper (lamEnv X scope s.heap.objs.size f c')) → CQ (lamCxN X A outer s H E scope f c') (frz ρ) body fun r ρ' => r = r0 ∧ ρ' = frz ρ)
    (L : LamS X.env.scope scope) (hdef : defaultsOf params X.env = ([], [])) (hbind : ∀ (q : Str) (cl : List (Str × Addr)) (pm cv ctv : Value), bindArgs (PySem.W.kla_fn "<lambda>" q params body scope cl pm cv ctv) ⟨[], []⟩ = pure [])
    (hg : Gl X x := by rfl) (hdb : (x == ("__debug__" : Str)) = false := by decide) (hd : (a == ("__debug__" : Str)) = false := by decide) (hcd : (a == ("__classdict__" : Str)) = false := by decide) :
    CE X ρ (.Call (.Name x p) [.Lambda params body scope lpos] [] pos) dW ρ := by
  refine .of (pe_lamcallN (T := lamT) (t := fun E σ H Q => ∀ (A : Around) (outer : List Env) (s : Shared) (H0 : Hp) (f c' : Addr), Room k (A.deeper (lamEnv X scope s.heap.objs.size f c')) → tw (lamCxN X A outer s H0 E scope f c') body σ H Q)
    hg hm hk lk hcg hb Sg hNg hva hG TB hcode hmT hu hr L hdef hbind (fun A outer s H E f c' hr' => ⟨fun pins s1 σ H1 Q I h => h A outer s H f c' hr' pins s1 I⟩) hdb hd hcd) ⟨rfl, fun F O σ H Q I q => ⟨I.tb, fun H1 eN T1 => ?_⟩⟩
  have e1 : ExN H H1 := fun b o t h => eN b o h t.nt
  have I1 := I.ext e1 T1
  have hide : ∀ {H' : Hp}, SOk X.K F O ρ σ H' → ∀ a, ¬ UU O (frz ρ) a → UU O ρ a → ∃ vs, H' a = some (.lst vs) := fun {H'} J a n z => by
    rcases z with z | z
    · exact absurd (.inl z) n
    · exact J.ownH z
  refine ⟨hid (fun _ => False) H1, UU O ρ, sok0 hid_ex (fun a z => ?_) T1 (fun _ _ h => nt_hid h), fun E Q' hh A outer s H0 f c' hr' => ?_, fun v H' J rv => ?_⟩
  · obtain ⟨o, h1, t⟩ := I1.odU a z
    exact ⟨o, hid_of id h1⟩
  · have I2 := I1.frzAll.sup
    refine fun pins s1 J => hbody A outer s H0 E f c' hr' _ O σ H1 Q' (fun cls d _ H => E cls d H) I2 takes_lam (fun d ρ' v H' hR _ J' rv => ?_) (fun er ρ' H' cls dd hR J' re => ?_) pins s1 J
    · obtain ⟨hR, rfl⟩ := hR
      subst hR
      have e2 := Ex.frzSup J'
      have I3 := I1.ext e2 J'.tb
      have := hh H' (sok0 (fun a o h => by
        have t := nt_hid h
        exact e2 a o t (of_hid h).2) (fun a z => by
          obtain ⟨o, h1, t⟩ := I1.odU a z
          exact ⟨o, hid_of id h1⟩) J'.tb (fun _ _ h => nt_hid h))
      exact this v (Rep.hide (hide I3) him rv)
    · obtain ⟨hR, rfl⟩ := hR
      subst hR
      have e2 := Ex.frzSup J'
      have I3 := I1.ext e2 J'.tb
      have := hh H' (sok0 (fun a o h => by
        have t := nt_hid h
        exact e2 a o t (of_hid h).2) (fun a z => by
          obtain ⟨o, h1, t⟩ := I1.odU a z
          exact ⟨o, hid_of id h1⟩) J'.tb (fun _ _ h => nt_hid h))
      obtain ⟨r1, r2⟩ := re
      refine this cls dd ⟨r1, ?_⟩
      rcases r2 with r2 | ⟨aa, fv, h7, h8, h9⟩
      · exact .inl r2
      · have t := nt_hid h8
        refine .inr ⟨aa, fv, h7, hid_of (fun z => ?_) (of_hid h8).2, RepF.hide (hide I3) him h9⟩
        obtain ⟨n8, q8⟩ := of_hid h8
        obtain ⟨vs, e⟩ := hide I3 aa n8 z
        rw [e] at q8
        cases q8
  · have e2 : ExN H1 H' := fun a o t h => J.fr a o (hid_of id h)
    exact q v H' (I1.ext e2 J.tb) rv
end
/-- try: a() / except CS as n: suite; return ret -/
theorem word_gives {X : Cx} {Ng : List Str} {x a e n q ret : Str} {sg : Scope} {g CS : Addr} {cdg : Value} {b₀ : Stmt} {suite : List Stmt} {iE : Nat} {r0 : Res} {dW : VL.D} {j : Nat} {p1 p2 p3 p4 p7 p8 p9 p10 : Pos}
    (hge : sg.names.lookup e = some .globalImplicit) (hme : X.mg e = some (.ref CS)) (hde : (e == ("__debug__" : Str)) = false) (h0 : ∀ f : Addr, (L2.start Ng [V.ref f])[0]? = some (some (V.ref f))) (hN : Ng.Nodup) (hi : Ng[iE]? = some n) (hln : sg.names.lookup n = some .cell)
    (hok : ∀ d, r0 = .ok d → dW = .str ret)
    (herr : ∀ er, r0 = .error er → PySem.W.exmOne X.K (.ref er.C) (.ref CS) = some true ∧ ∀ (s : Shared) (H : Hp) (aE : Addr) (oe : Obj) (dd : Option Addr) (pn : List (Addr × Obj)), L2N.Zn (.ref er.C) dd oe → (∃ vs, oe.data = .fields vs) → (dd = none → er.fs = []) →
      CSs ((cxOf C8.CX0 X.prog X.w X.K X.mg X.base Ng x sg g cdg X.A X.stack s H C8.E0).nox.suite aE ((aE, oe) :: pn)) ((List.replicate Ng.length Sl.un).set iE (.dat (exD aE dd er.fs))) (b₀ :: suite) { nx := fun _ => False, rt := fun d _ => d = dW }) :
    GivesToN X Ng x sg g cdg [.Try [.Expr (.Call (.Name a p1) [] [] p2) p3] [.ExceptHandler (some (.Name e p4)) (some n) (b₀ :: suite) p7] [] [] p8, .Return (some (.Constant (.str ret) j p9)) p10] a q (TTw X.K r0 dW) := by
  intro f c' s H Q tl act hc h hr
  obtain ⟨F, O, I, htl, hQ⟩ := h
  generalize hY : (cxOf C8.CX0 X.prog X.w X.K X.mg X.base Ng x sg g cdg X.A X.stack s H C8.E0).nox = Y
  have hgl : Gl Y e := by rw [← hY]; exact hge
  have hYK : Y.K = X.K := by rw [← hY]; rfl
  have hYN : Y.N = Ng := by rw [← hY]; rfl
  have eu : ∀ a, UU O (List.replicate Ng.length .un) a ↔ O a := fun a => ⟨fun z => z.elim id fun z => absurd z owns_rep, .inl⟩
  refine ⟨_, pss_cons (ps_try_asC (X := Y) (c := .ref CS) (i := iE) (Wout := fun _ _ _ _ => False)
      (tb := fun W D σ HZ => ∃ Ech : XK, (∀ cls d σ' H', Ech cls d H' → W cls d σ' H') ∧ σ[0]? = some (some (.ref f)) ∧ HZ c' = some (CodeO c' q) ∧ tl Ech HZ fun _ H' => D.nx σ H')
      (ts := fun aE cls dd D σ H => ∀ oe pn, L2N.Zn cls dd oe → (∃ vs, oe.data = .fields vs) → twss (Y.suite aE ((aE, oe) :: pn)) (b₀ :: suite) D σ H)
      (by rw [← hY]; rfl) (by rw [← hY]; rfl) (by rw [hYN]; exact hN) (by rw [hYN]; exact hi) (by rw [← hY]; exact hln) (by rw [← hY]; rfl) ⟨hgl, hde, .inl (by rw [← hY]; exact hme)⟩ (fun _ _ x => by
        obtain ⟨_, _, _, _, _, _, _, _, _, _, _, _, _, _, _, _, z⟩ := x
        exact z.elim)
      (fun W pn xe tk _ => ?_) (fun aE oe cls dd pn hz hf => ⟨fun pins s σ H D I h => h oe pn hz hf pins s I⟩)) (pss_one (ps_ret (pe_str (x := ret)))), ?_⟩
  · refine pss_one ⟨fun pins s' σ H' D I h' => ?_⟩
    obtain ⟨Ech, hW, h1, h2, h3⟩ := h'
    subst hY
    have hp := act W pn xe Ech p1 p2 tk hW
    exact (ps_expr (pos := p3) hp).run pins s' σ H' D I ⟨h1, h2, h3⟩
  · refine ⟨fun cls dd H' => ∃ er, r0 = .error er ∧ SOk X.K F O [] [] H' ∧ ErRep X.K (hid O H') cls dd er, fun cls dd σ' H' ⟨er, e1, J, re⟩ => ?_, h0 f, hc, htl _ _ fun H' J => ?_⟩
    · obtain ⟨hx, hsu⟩ := herr er e1
      have ec : cls = .ref er.C := re.1
      subst ec
      refine ⟨true, by rw [hYK]; exact hx, fun _ aE na oe pn hz hf pins s2 I2 => ?_, fun z => Bool.noConfusion z⟩
      have hlen : (σ'.set iE (some (.ref aE))).length = Ng.length := by
        have := I2.len
        rw [this]
        show Y.N.length = _
        rw [hYN]
      have hdd : dd = none → er.fs = [] := fun z => by
        obtain ⟨_, ⟨z1, z2⟩ | ⟨d1, f1, z1, z2, z3⟩⟩ := re
        · exact z1
        · rw [z] at z1; cases z1
      have hsl : σ'.length = Ng.length := by rw [List.length_set] at hlen; exact hlen
      have S0 : SOk X.K F O (List.replicate Ng.length .un) σ' H' := sokU J hsl
      have S1 := S0.set (i := iE) (v := .ref aE) (d := exD aE dd er.fs) (by
        rw [hid_congr eu]
        exact rep_exD (C := er.C) (cls := .ref er.C) re)
      subst hY
      refine hsu s H aE oe dd pn hz hf hdd F O _ H' _ S1 ⟨fun _ _ _ z _ => z.elim, fun d ρ' σ2 H2 v hd J2 rv => ?_, fun _ _ _ z _ => z.elim, fun _ _ _ z _ => z.elim, fun _ _ _ _ => False, fun _ _ x => ?_, fun _ _ _ _ _ _ z => z.elim⟩ pins s2 I2
      · subst hd
        exact hQ v H2 (sok0 J2.fr J2.od J2.tb J2.ft) (rv.mono (ex_hid fun a o _ n h => ⟨fun z => n (.inl z), h⟩))
      · obtain ⟨_, _, _, _, _, _, _, _, _, _, _, _, _, _, _, _, z⟩ := x
        exact z.elim
    · cases r0 with
      | ok d =>
        have e1 := hok d rfl
        subst e1
        exact fun v rv => hQ _ _ J (.str ret)
      | error er => exact fun cls dd re => ⟨er, rfl, J, re⟩
end VLH
end

section
set_option Elab.async false
set_option linter.all false
set_option maxRecDepth 100000
set_option maxHeartbeats 4000000
/-! wide ranges, dict displays, defs that hand out a new list -/
namespace VL
open PySem PySem.Spec PyProof.Rows L2
theorem turn_long {P : Program} {w : World} {K : PySem.W.Frag} {tg : Expr} (it : Addr) (lo : Int) (n : Nat) : Turn P w K tg (Itr lo n) [it] it (fun i h => IsLongIter h it (lo + (i : Nat) * 1) ((n : Int) - (i : Nat)) 1) where
  mem := by simp
  obj := fun i h st b hb => by
    have e : b = it := by simpa using hb
    subst e
    exact ⟨_, st, fun v z => by
      have z' : Data.fields _ = Data.cell v := z
      cases z'⟩
  keep := fun i h h' st k => k it (by simp) _ st
  item := by
    intro X hP hw hK hc i pins s σ H E I hf st hg
    subst hP hw hK
    obtain ⟨f0, f1, f2, f3, f4, f5⟩ := hf it (by simp)
    have W := Walks.longrange (prog := X.prog) (w := X.w) (I.ok.hd hc) it lo 1 n
    refine W.item i s _ _ hg st fun v h' tk hv st' kk => ?_
    obtain ⟨t, rfl⟩ := hv
    have I1 : Inv X pins σ H { s with heap := h', toks := tk } := I.turned (fun b o hb e => kk b o (by simpa using hb) e) f0 f1 f3 f4 f5
    refine ⟨_, rfl, go_of (s := { s with heap := h', toks := tk }) (n := "longrange_iterator") st' rfl rfl (by decide) ⟨.int (lo + i), H, I1, ⟨t, ?_⟩, ⟨rfl, rfl⟩, st', fun b hb => (hf b hb).1⟩⟩
    rw [Int.mul_one]
  done := by
    intro X hP hw hK hc i pins s σ H E I hf st hg
    subst hP hw hK
    obtain ⟨f0, f1, f2, f3, f4, f5⟩ := hf it (by simp)
    exact wpAny_pyNext_long_end (I.ok.hd hc) st (by have : n ≤ i := hg; omega) fun h' eb => ⟨rfl, I.turned (t' := s.toks) (fun b o hb e => eb b o hb e) f0 f1 f3 f4 f5⟩
  self := fun _ _ _ _ _ st h => wpAny_pyIter_longiter st h
section
variable {X : Cx} {tg a b e c : Expr} {es : List Expr} {p pos : Pos} {ρ ρ1 ρ2 : Lo} {i j : Int} {d : D} {ds es' : List D} {W : WE} {rest : List Stmt} {n x : Str}
def iRng2W (ta : TA) : TI := fun σ H R => ta σ H fun vs H1 => ∃ i j : Int, vs = [.int i, .int j] ∧ R (Itr i (j - i).toNat) H1
theorem range_itW {pins : List (Addr × Obj)} {σ : L2.St} {H : Hp} {s : Shared} {R : It → Hp → Prop} {E : Value → Shared → Prop} {lo hi : Int} {t u v : Tok} {tk : Nat} (I : Inv X pins σ H s)
    (q : R (Itr lo (hi - lo).toNat) H) : wpAny (model X.prog X.w) X.A (pyIter (.ref s.heap.objs.size)) (PIE X pins σ tg R) E { s with heap := s.heap.push { cls := .type "range", data := .fields #[.int lo t, .int hi u, .int 1 v] }, toks := tk } := by
  have I1 : Inv X pins σ H { s with heap := s.heap.push { cls := .type "range", data := .fields #[.int lo t, .int hi u, .int 1 v] }, toks := tk } := I.kept fun b o e => Heap.get?_push_of_some _ e
  have e1 : lo + ((0 : Nat) : Int) * 1 = lo := by simp
  have e2 : (((hi - lo).toNat : Nat) : Int) - ((0 : Nat) : Int) = Builtin.Range.rangeSize lo hi 1 := by rw [rangeSize_one]; split <;> omega
  have fp : ∀ b ∈ [(s.heap.push { cls := .type "range", data := .fields #[.int lo t, .int hi u, .int 1 v] }).objs.size], FpOk X pins H b := fun b hb => by
    have e : b = (s.heap.push { cls := .type "range", data := .fields #[.int lo t, .int hi u, .int 1 v] }).objs.size := by simpa using hb
    subst e
    exact I1.fpOk (Nat.le_refl _) (I1.hok.fresh (Nat.le_refl _))
  by_cases hsm : Builtin.Range.small lo hi 1 = true
  · refine wpAny_pyIter_range (IsRange.new ..) hsm ?_
    refine ⟨(s.heap.push { cls := .type "range", data := .fields #[.int lo t, .int hi u, .int 1 v] }).objs.size, [(s.heap.push { cls := .type "range", data := .fields #[.int lo t, .int hi u, .int 1 v] }).objs.size], _, _, H, rfl,
      I1.kept (t' := tk) fun b o e => Heap.get?_push_of_some _ e, turn_range _ lo (hi - lo).toNat, ?_, fp, q⟩
    show IsRangeIter _ _ (lo + ((0 : Nat) : Int) * 1) ((((hi - lo).toNat : Nat) : Int) - ((0 : Nat) : Int)) 1
    rw [e1, e2]
    exact Heap.get?_push_size _ rfl
  · refine wpAny_pyIter_longrange (IsRange.new ..) (by simpa using hsm) ?_
    refine ⟨(s.heap.push { cls := .type "range", data := .fields #[.int lo t, .int hi u, .int 1 v] }).objs.size, [(s.heap.push { cls := .type "range", data := .fields #[.int lo t, .int hi u, .int 1 v] }).objs.size], _, _, H, rfl,
      I1.kept (t' := tk) fun b o e => Heap.get?_push_of_some _ e, turn_long _ lo (hi - lo).toNat, ?_, fp, q⟩
    show IsLongIter _ _ (lo + ((0 : Nat) : Int) * 1) ((((hi - lo).toNat : Nat) : Int) - ((0 : Nat) : Int)) 1
    rw [e1, e2]
    exact Heap.get?_push_size _ rfl
theorem pi_range2W {ta : TA} (hg : Gl X "range") (hm : X.mg "range" = none) (ha : PA X [a, b] ta) (hs : starEach [a, b] X.env = [(false, eval a X.env), (false, eval b X.env)] := by rfl) (hs2 : starEach [b] X.env = [(false, eval b X.env)] := by rfl) :
    PI X tg (.Call (.Name "range" p) [a, b] [] pos) (iRng2W ta) := by
  refine ⟨fun pins s σ H R I h => ?_⟩
  refine Call_ (ld_blt I hg hm boot_range (PyProof.Rows.callWith_type1 (thn (ha.run pos pins s σ H _ I h) fun us s1 ⟨vs, H1, I1, r1, q1⟩ => ?_) (by rw [hs, hs2]) (by rw [hs2]; rfl)))
  obtain ⟨i, j, e, q⟩ := q1
  subst e
  cases r1 with
  | cons r rr =>
    cases rr with
    | cons r' rr =>
      cases rr
      obtain ⟨t, rfl⟩ := r
      obtain ⟨t', rfl⟩ := r'
      exact call_range_2 (range_itW I1 q)
/-- range(a, b), of any ints -/
theorem ci_range2W (hm : X.mg "range" = none) (ha : CE X ρ a (.int i) ρ1) (hb : CE X ρ1 b (.int j) ρ2) (hg : Gl X "range" := by rfl) (hs : starEach [a, b] X.env = [(false, eval a X.env), (false, eval b X.env)] := by rfl) (hs2 : starEach [b] X.env = [(false, eval b X.env)] := by rfl)
    (he : starEach [a, b] X.env = (false, eval a X.env) :: starEach [b] X.env := by rfl) (he2 : starEach [b] X.env = (false, eval b X.env) :: starEach [] X.env := by rfl) : CI X ρ tg (.Call (.Name "range" p) [a, b] [] pos) (rangeD i (j - i).toNat) ρ2 :=
  ⟨_, pi_range2W hg hm pa_tw hs hs2, hb.1.trans ha.1, fun F O σ H R I k => (d_cons ha (d_cons hb d_nil he2) he).2 F O σ H _ I fun vs H1 J r => by
    obtain ⟨v, w, rfl, ru, rw'⟩ := two_of r
    cases ru
    cases rw'
    exact ⟨i, j, rfl, k _ H1 J wk_range⟩⟩
/-- {} -/
theorem c_dict0 : CE X ρ (.Dict [] [] pos) (.dic []) ρ := .of pe_dnewK ⟨rfl, fun F O σ H Q I q p hp => q _ _ (I.new hp) (.dic (I.newHid hp) .nil)⟩
/-- {k: name} -/
theorem c_dict1 (s : Nat) {k : Int} {jj} {kp : Pos} (hd : ρ[s]? = some (.dat d)) (hN : X.N[s]? = some n := by rfl) (hv : Vis X.env.scope n := by first | exact Or.inl rfl | exact Or.inr (Or.inl rfl) | exact Or.inr (Or.inr rfl))
    (h1 : (n == ("__debug__" : Str)) = false := by decide) (h2 : (n == ("__classdict__" : Str)) = false := by decide) : CE X ρ (.Dict [some (.Constant (.int k) jj kp)] [.Name n p] pos) (.dic [(.inl k, d)]) ρ :=
  .of (pe_disp (pps_cons pe_int (pe_var (i := s) hN hv h1 h2) pps_nil) rfl rfl (by simp) (by show 1 ≤ 15; decide)) ⟨rfl, fun F O σ H Q I q p hp => by
    obtain ⟨v, e1, r1⟩ := I.dat s d hd
    refine ⟨v, e1, upd_same, [(.inl k, v)], rfl, by simp, ?_⟩
    have e : upd (upd H p (.dK [])) p (.dK (mergeK [] [(.inl k, v)])) = upd H p (.dK [(.inl k, v)]) := upd_upd
    rw [e]
    exact q _ _ (I.new hp) (.dic (I.newHid hp) (.cons (r1.mono (ex_new hp)) .nil))⟩
end
/-! ### a def that hands out a new list -/
def spN (K : PySem.W.Frag) (A : List D → List D → Prop) : Sp := fun vs H Q _ => ∃ (U : Addr → Prop) (ds es : List D), (∀ a, U a → ∃ o, H a = some o ∧ NT o) ∧ TB H ∧ Reps K (hid U H) vs ds ∧ A ds es ∧
  ∀ p ws H1, ExN H H1 → TB H1 → H1 p = none → Reps K (hid U H1) ws es → Q (.ref p) (upd H1 p (.lst ws))
structure FnN (P : Program) (w : World) (K : PySem.W.Frag) (mg : Str → Option Value) (base : Heap) (k : Nat) (x : Str) (A : List D → List D → Prop) : Prop where
  ex : ∃ f fd ps, FnOk P w K mg base (L2N.CX P w) k f fd ps (spN K A) ∧ mg x = some (.ref f) ∧ PySem.W.keepIn K (.ref f) = true ∧ Binds K fd ps []
theorem n_call {X : Cx} {e : Expr} {es : List Expr} {ρ ρ1 : Lo} {p pos : Pos} {x : Str} {k : Nat} {ds es' : List D} {A : List D → List D → Prop} (Fn : FnN X.prog X.w X.K X.mg X.base k x A) (hr : Room k X.A) (ha : CD X ρ (e :: es) ds ρ1) (hA : A ds es') (hg : Gl X x := by rfl) (hdb : (x == ("__debug__" : Str)) = false := by decide)
    (he : starEach (e :: es) X.env = (false, eval e X.env) :: starEach es X.env := by rfl) (hpl : (backTo pos (starEach es X.env)).any (·.1) = false := by rfl) : CN X ρ (.Call (.Name x p) (e :: es) [] pos) es' ρ1 := by
  obtain ⟨f, fd, ps, hF, hm, hk, hb⟩ := Fn.ex
  refine .of (pe_call hF hr hg hm hk hb .nil passLN pa_tw hdb he hpl) ⟨ha.1, fun F O σ H Q I q => ha.2 F O σ H _ I fun vs H1 J r => ?_⟩
  rw [List.append_nil]
  exact ⟨UU O ρ1, ds, es', J.odU, J.tb, r, hA, fun p ws H2 e tb hp rs => q p ws H2 (J.ext e tb) hp rs⟩
/-- a body of two statements: s1; return e, e a new list -/
theorem fn_new2 {P : Program} {w : World} {K : PySem.W.Frag} {mg : Str → Option Value} {base : Heap} {k : Nat} {x : Str} {st s1 : Stmt} {e : Expr} {pos : Pos} {f : Addr} {fd : FuncData} {N ps : List Str} {A : List D → List D → Prop} (Fu : Fun K x x st f fd) (Sc : FnScope N ps (defScope st)) (hb : Binds K fd ps []) (hm : mg x = some (.ref f)) (hlen : ∀ ds r, A ds r → ds.length = ps.length)
    (hst : defBody st = [s1, .Return (some e) pos])
    (hbody : ∀ (cdv : Value) (A' : Around) (outer : List Env) (s : Shared) (H : Hp) (E : XK), Room k (cx P w K mg base N x st f cdv A' outer s H E).A → Bd (cx P w K mg base N x st f cdv A' outer s H E) → ∀ ds es, A ds es →
      ∃ t, PS (cx P w K mg base N x st f cdv A' outer s H E) s1 t ∧ ∀ (F : Hp) (O : Addr → Prop) (σ : L2.St) (H1 : Hp) (D : Ends), SOk K F O (ds.map .dat ++ List.replicate (N.length - ps.length) .un) σ H1 →
        (∀ ρ' ρ2 σ' H', CN (cx P w K mg base N x st f cdv A' outer s H E) ρ' e es ρ2 → SOk K F O ρ' σ' H' → D.nx σ' H') → t D σ H1) : FnN P w K mg base (k + 1) x A := by
  refine ⟨f, fd, ps, Fun.okXN Fu Sc (fun vs H Q E h => ?_) (fun cdv A' outer s H vs Q E hr h => ?_), hm, Fu.kp, hb⟩
  · obtain ⟨U, ds, es, _, _, r, a, _⟩ := h
    rw [r.length]
    exact hlen ds es a
  · obtain ⟨U, ds, es, od, tb, r, a, q⟩ := h
    have hl : vs.length = ps.length := by rw [r.length]; exact hlen ds es a
    obtain ⟨t, hp, ht⟩ := hbody cdv A' outer s H E hr (bd_cx Sc.nd) ds es a
    rw [start_eq hl, hst]
    refine ⟨_, pss_cons hp (pss_one (ps_ret pe_tw)), ?_⟩
    have I0 := args_ok r od tb
    refine ht _ U _ H _ (I0.more _) fun ρ' ρ2 σ' H' hc J => ?_
    exact hc.2 _ U σ' H' _ J fun p ws H1 J1 hp rs => q p ws H1 (fun b o t h => J1.fr b o (hid_of owns_dats h)) J1.tb hp (rs.mono (ex_hid fun b o _ n h => ⟨fun z => n (.inl z), h⟩))
/-- name = [..]; return e -/
theorem ps_lcF2 {X : Cx} {ρ ρ1 ρ2 : Lo} {elt tg iter e : Expr} {ifs : List Expr} {scope : Scope} {es es2 : List D} {y : Str} {py pos spos : Pos} (i : Nat) (h : CL X ρ elt tg iter ifs scope es ρ1) (hc : CN X (ρ1.set i (.dat (.lst es))) e es2 ρ2) (hi : X.N[i]? = some y := by rfl) (hx : X.env.scope.names.lookup y = some .local := by rfl)
    (hk : X.env.scope.kind = .function := by rfl) (hli : (py.line == pos.line) = true := by rfl) (ha : (scope.names.any fun (n, k) => n == y && (k == .local || k == .cell)) = false := by rfl) :
    ∃ t, PS X (.Assign [.Name y py] (.ListComp elt [⟨tg, iter, ifs, 0⟩] scope pos) spos) t ∧ ∀ (F : Hp) (O : Addr → Prop) (σ : L2.St) (H1 : Hp) (D : Ends), SOk X.K F O ρ σ H1 → (∀ ρ' ρ2 σ' H', CN X ρ' e es2 ρ2 → SOk X.K F O ρ' σ' H' → D.nx σ' H') → t D σ H1 := by
  obtain ⟨tl, _, h2, h3⟩ := h.ex
  exact ⟨_, h2 i y py pos spos hi hx (sw_true hk hx hli ha), fun F O σ H E I k => h3.2 F O σ H _ I fun q vs H1 J hp rv => k _ _ _ _ hc ((J.new hp).set (.lst (J.newHid hp) (rv.mono (ex_new hp))))⟩
theorem cutD_take (xs : List D) (k : Nat) : cutD xs none (some (k : Nat)) = xs.take k := by
  unfold cutD
  rw [HT.sIx_none, HT.sIx_nat, List.drop_zero, Nat.sub_zero]
  by_cases h : k ≤ xs.length
  · rw [Nat.min_eq_left h]
  · rw [Nat.min_eq_right (by omega), List.take_length, List.take_of_length_le (by omega)]
theorem cutD_drop (xs : List D) (k : Nat) : cutD xs (some (k : Nat)) none = xs.drop k := by
  unfold cutD
  rw [HT.sIx_none, HT.sIx_nat]
  by_cases h : k ≤ xs.length
  · rw [Nat.min_eq_left h]
    exact List.take_of_length_le (by rw [List.length_drop]; omega)
  · rw [Nat.min_eq_right (by omega), List.drop_length, List.take_nil, List.drop_of_length_le (by omega)]
end VL
end

section
set_option Elab.async false
set_option linter.all false
set_option maxRecDepth 100000
set_option maxHeartbeats 4000000
/-! expressions of several results (what is drawn is told loosely), nothing raised -/
namespace VL
open PySem PySem.Spec PyProof.Rows L2
def EVQ (K : PySem.W.Frag) (t : TE) (ρ : Lo) (R : D → Lo → Prop) : Prop :=
  ∀ F O σ H (Q : VK), SOk K F O ρ σ H → (∀ d ρ' v H', R d ρ' → owns ρ' = owns ρ → SOk K F O ρ' σ H' → Rep K (hid (UU O ρ') H') v d → Q v H') → t σ H Q
def ETQ (K : PySem.W.Frag) (t : TT) (ρ : Lo) (R : Bool → Lo → Prop) : Prop :=
  ∀ F O σ H (Q : Bool → Hp → Prop), SOk K F O ρ σ H → (∀ b ρ' H', R b ρ' → owns ρ' = owns ρ → SOk K F O ρ' σ H' → Q b H') → t σ H Q
def QE (X : Cx) (ρ : Lo) (e : Expr) (R : D → Lo → Prop) : Prop := EVQ X.K (tw X e) ρ R
def QT (X : Cx) (ρ : Lo) (e : Expr) (R : Bool → Lo → Prop) : Prop := ETQ X.K (twT X e) ρ R
def QW (X : Cx) (ρ : Lo) (e : Expr) (R : Bool → Lo → Prop) : Prop := ETQ X.K (twW X e) ρ R
section
variable {X : Cx} {e a b c tg : Expr} {es rest' : List Expr} {p pos : Pos} {ρ ρ1 ρ2 : Lo} {i j : Int} {d : D} {ds es' : List D} {W : WE} {rest A B : List Stmt} {n m x : Str} {R R' : D → Lo → Prop} {Rb Rb' : Bool → Lo → Prop} {k : Nat} {S : Spec} {q : Addr}
theorem QE.imp (h : QE X ρ e R) (i : ∀ d ρ', R d ρ' → R' d ρ') : QE X ρ e R' := fun F O σ H Q I qq => h F O σ H Q I fun d ρ' v H' r o J rv => qq d ρ' v H' (i _ _ r) o J rv
theorem CE.qe (h : CE X ρ e d ρ1) (r : R d ρ1) : QE X ρ e R := fun F O σ H Q I qq => h.2 F O σ H Q I fun v H' J rv => qq d ρ1 v H' r h.1 J rv
theorem CT.qt {k : Bool} (h : CT X ρ e k ρ1) (r : Rb k ρ1) : QT X ρ e Rb := fun F O σ H Q I qq => h.2 F O σ H Q I fun H' J => qq k ρ1 H' r h.1 J
theorem QT.of {t : TT} (hp : PT X e t) (h : ETQ X.K t ρ Rb) : QT X ρ e Rb := fun F O σ H Q I qq pins s J => hp.run pins s σ H Q J (h F O σ H Q I qq)
theorem QW.of {t : TT} (hp : PW X e t) (h : ETQ X.K t ρ Rb) : QW X ρ e Rb := fun F O σ H Q I qq wh pins s J => hp.run wh pins s σ H Q J (h F O σ H Q I qq)
/-- a value that is a truth, as a test -/
theorem qt_val (h : QE X ρ e fun d ρ' => ∃ b, d = .bl b ∧ Rb b ρ') (he : ∀ whole, isTrue e X.env whole = (do let v ← whole; standAt e.pos; holding [v] (truthy v)) := by intro _; rfl) : QT X ρ e Rb :=
  .of (pt_val pe_tw he) fun F O σ H Q I q => h F O σ H _ I fun d ρ' v H' ⟨b, e, r⟩ o J rv => by
    subst e
    cases rv
    exact ⟨b, rfl, q b ρ' H' r o J⟩
theorem qt_not (h : QT X ρ a fun b ρ' => Rb (!b) ρ') : QT X ρ (.UnaryOp .Not a pos) Rb := .of (pt_not pt_tw) fun F O σ H Q I q => h F O σ H _ I fun b ρ' H' r o J => q _ ρ' H' r o J
theorem qt_w (h : QW X ρ e Rb) : QT X ρ e Rb := .of (PW.pt pw_tw) h
theorem qw_or1 (h : QT X ρ a Rb) : QW X ρ (.BoolOp .Or [a] pos) Rb := .of (pw_or1 pt_tw) h
theorem qw_or (ha : QT X ρ a fun k ρ1 => (k = true → Rb true ρ1) ∧ (k = false → QW X ρ1 (.BoolOp .Or (b :: rest') pos) Rb)) : QW X ρ (.BoolOp .Or (a :: b :: rest') pos) Rb :=
  .of (pw_or pt_tw pw_tw) fun F O σ H Q I q => ha F O σ H _ I fun k ρ1 H1 ⟨r1, r2⟩ o J => by
    cases k with
    | true => rw [if_pos rfl]; exact q true ρ1 H1 (r1 rfl) o J
    | false => rw [if_neg Bool.false_ne_true]; exact r2 rfl F O σ H1 Q J fun b ρ2 H2 r o2 J2 => q b ρ2 H2 r (o2.trans o) J2
theorem qw_and1 (h : QT X ρ a Rb) : QW X ρ (.BoolOp .And [a] pos) Rb := .of (pw_and1 pt_tw) h
theorem qw_and (ha : QT X ρ a fun k ρ1 => (k = false → Rb false ρ1) ∧ (k = true → QW X ρ1 (.BoolOp .And (b :: rest') pos) Rb)) : QW X ρ (.BoolOp .And (a :: b :: rest') pos) Rb :=
  .of (pw_and pt_tw pw_tw) fun F O σ H Q I q => ha F O σ H _ I fun k ρ1 H1 ⟨r1, r2⟩ o J => by
    cases k with
    | false => rw [if_neg Bool.false_ne_true]; exact q false ρ1 H1 (r1 rfl) o J
    | true => rw [if_pos rfl]; exact r2 rfl F O σ H1 Q J fun b ρ2 H2 r o2 J2 => q b ρ2 H2 r (o2.trans o) J2
/-- if, the test of several outcomes -/
theorem css_ifQ (hc : QT X ρ c fun k ρ1 => (k = true → CSs X ρ1 A { W with nx := fun ρ' => CSs X ρ' rest W }) ∧ (k = false → CSs X ρ1 B { W with nx := fun ρ' => CSs X ρ' rest W })) : CSs X ρ (.If c A B pos :: rest) W :=
  css_of (ps_if pt_tw pss_tw pss_tw) fun F O σ H E I r => hc F O σ H _ I fun k ρ1 H1 ⟨h1, h2⟩ o J => by
    cases k with
    | true => rw [if_pos rfl]; exact h1 rfl F O σ H1 E J r
    | false => rw [if_neg Bool.false_ne_true]; exact h2 rfl F O σ H1 E J r
theorem css_asgD (i : Nat) (B : Bdn X) (he : QE X ρ e fun d ρ1 => CSs X (ρ1.set i (.dat d)) rest W) (hi : X.N[i]? = some n := by rfl) (hx : Loc X.env.scope n := by first | exact Or.inl rfl | exact Or.inr rfl)
    (hs : swapsWith e (some (.Name n p)) pos.line X.env = pure false := by rfl) (hf : X.fn n = true ∨ X.env.scope.names.lookup n = some .local := by first | exact .inl rfl | exact .inr rfl) : CSs X ρ (.Assign [.Name n p] e pos :: rest) W :=
  css_of (ps_set B.nd hi hx pe_tw hs hf) fun F O σ H E I r => he F O σ H _ I fun d ρ1 v H1 k o J rv => r.nx _ _ _ k (J.set rv)
theorem css_tupD {T : Tg} (he : QE X ρ e fun d ρ1 => ∃ ρ2, Bind T d ρ1 ρ2 ∧ CSs X ρ2 rest W) (hg : PG X tg (gOf X.K T)) (hs : swapsWithSole [tg] e pos.line X.env = pure false := by rfl) (hw : swappedStores [tg] e X.env = pure none := by rfl)
    (h1 : (assignEach [tg] X.env).map (·.2) = [assign tg X.env] := by rfl) : CSs X ρ (.Assign [tg] e pos :: rest) W := css_of (ps_asg pe_tw hg hs hw h1) fun F O σ H E I r => he F O σ H _ I fun d ρ1 v H1 ⟨ρ2, hb, k⟩ o J rv => hb.run J rv fun σ' L _ _ => r.nx _ _ _ k L
theorem css_retD (he : QE X ρ e fun d ρ1 => W.rt d ρ1) : CSs X ρ (.Return (some e) pos :: rest) W := css_of (ps_ret pe_tw) fun F O σ H E I r => he F O σ H _ I fun d ρ1 v H1 k o J rv => r.rt d ρ1 σ H1 v k J rv
/-- f(hand, e, ..), its result told loosely -/
theorem q_hand (i : Nat) {xp : Pos} {g : Str} (Fn : FnV X.prog X.w X.K X.mg X.base k g S) (hr : Room k X.A) (hi : ρ[i]? = some (.mut q ds)) (ha : CD X ρ es es' ρ1) {cs1 : List D} (hi1 : ρ1[i]? = some (.mut q cs1))
    (hS : S (.mut q cs1 :: es'.map .dat) fun r ρa => ∃ cs d, ρa = .mut q cs :: es'.map .dat ∧ r = .ok d ∧ R d (ρ1.set i (.mut q cs))) (hg : Gl X g := by rfl) (hN : X.N[i]? = some n := by rfl) (hv : Vis X.env.scope n := by first | exact Or.inl rfl | exact Or.inr (Or.inl rfl) | exact Or.inr (Or.inr rfl))
    (h1 : (n == ("__debug__" : Str)) = false := by decide) (h2 : (n == ("__classdict__" : Str)) = false := by decide) (hdb : (g == ("__debug__" : Str)) = false := by decide)
    (he : starEach (.Name n xp :: es) X.env = (false, eval (.Name n xp) X.env) :: starEach es X.env := by rfl) (hpl : (backTo pos (starEach es X.env)).any (·.1) = false := by rfl) :
    QE X ρ (.Call (.Name g p) (.Name n xp :: es) [] pos) R := fun F O σ H Q I qq => by
  obtain ⟨f, fd, ps, hF, hm, hk, hb⟩ := Fn.ex
  intro pins s Iv
  refine (pe_call hF hr hg hm hk hb .nil passLN (pa_cons (pe_var hN hv h1 h2) pa_tw he) hdb he hpl).run pins s σ H Q Iv ?_
  obtain ⟨e1, _, _⟩ := I.mt i q ds hi
  refine ⟨.ref q, e1, ha.2 F O σ H _ I fun ws H1 J rs => ?_⟩
  refine ⟨fun a => UU O ρ1 a ∧ a ≠ q, .mut q cs1 :: es'.map .dat, ?_, Fn.mono _ _ _ (fun r ρa ⟨cs, d, ea, er, hR⟩ => ?_) hS⟩
  · rw [List.append_nil]
    exact argsM_ok (cs := []) J hi1 rs
  · subst ea er
    intro _ H' L v rv
    rw [List.append_nil] at L
    obtain ⟨M1, M2⟩ := backM J hi1 L
    exact qq d _ v H' hR ((owns_setM hi1).trans ha.1) M1 (M2 rv)
/-- a, b, c = x, y, [..] -/
theorem css_par3M (i j l : Nat) {m2 : Str} {px py pz pt pt2 : Pos} {kt k2} {y : D} {x : D} {ρ3 : Lo} (B : Bd X) (ha : CE X ρ a x ρ1) (hb : CE X ρ1 b y ρ2) (hc : CN X ρ2 c ds ρ3) (k : ∀ q, CSs X (((ρ3.set i (.dat x)).set j (.dat y)).set l (.mut q ds)) rest W) (hlt : l < ρ3.length := by first | decide | simp) (hij : i ≠ j := by decide) (hil : i ≠ l := by decide) (hjl : j ≠ l := by decide)
    (hi : X.N[i]? = some n := by rfl) (hj : X.N[j]? = some m := by rfl) (hl : X.N[l]? = some m2 := by rfl)
    (hx : X.env.scope.names.lookup n = some .local := by rfl) (hy : X.env.scope.names.lookup m = some .local := by rfl) (hz : X.env.scope.names.lookup m2 = some .local := by rfl)
    (hw : swappedStores [.Tuple [.Name n px, .Name m py, .Name m2 pz] kt pt] (.Tuple [a, b, c] k2 pt2) X.env = pure (some [n, m, m2]) := by rfl)
    (hs : swapsWithSole [.Tuple [.Name n px, .Name m py, .Name m2 pz] kt pt] (.Tuple [a, b, c] k2 pt2) pos.line X.env = pure false := by rfl)
    (he : starEach [a, b, c] X.env = (false, eval a X.env) :: starEach [b, c] X.env := by rfl) (he2 : starEach [b, c] X.env = (false, eval b X.env) :: starEach [c] X.env := by rfl) (he3 : starEach [c] X.env = (false, eval c X.env) :: starEach [] X.env := by rfl) :
    CSs X ρ (.Assign [.Tuple [.Name n px, .Name m py, .Name m2 pz] kt pt] (.Tuple [a, b, c] k2 pt2) pos :: rest) W :=
  css_of (ps_par3 B.calm B.nd hi hj hl hij hil hjl hx hy hz (pa_cons pe_tw (pa_cons pe_tw (pa_cons pe_tw pa_nil he3) he2) he) hw hs) fun F O σ H E I r => ha.2 F O σ H _ I fun v H0 I0 r0 => hb.2 _ O σ H0 _ I0.sup fun w H1 J rw' => hc.2 _ O σ H1 _ J.sup fun q vs H2 M hp rv => by
    have J' := J.weak I0.le_sup I0.od
    have M' := M.weak J'.le_sup J'.od
    have r1 := SOk.keep hc.1 M (SOk.keep hb.1 J r0)
    have r2 := SOk.keep hc.1 M rw'
    have exS : ∀ {ρ : Lo} {i : Nat} {d : D} {H : Hp}, Ex (hid (UU O ρ) H) (hid (UU O (ρ.set i (.dat d))) H) := fun {ρ i d H} => ex_hid fun a o _ nn h => ⟨fun z => nn (UU_set datNe z), h⟩
    refine ⟨v, w, .ref q, rfl, r.nx _ _ _ (k q) ?_⟩
    exact ((M'.set (i := i) r1).set (i := j) (r2.mono exS)).own1 (i := l) hp (Reps.mono exS (Reps.mono exS rv)) (by rw [List.length_set, List.length_set]; exact hlt)
end
end VL
end

section
set_option Elab.async false
set_option linter.all false
set_option maxRecDepth 100000
set_option maxHeartbeats 4000000
/-! the end -/
namespace VL
open PySem PySem.Spec PyProof.Rows L2 LamX
/-- the law's def itself -/
theorem fn_law {P : Program} {w : World} {K : PySem.W.Frag} {mg : Str → Option Value} {base : Heap} {k : Nat} {x : Str} {st : Stmt} {f : Addr} {fd : FuncData} {N ps : List Str} {A : List D → Res → Prop} (Fu : Fun K x x st f fd) (Sc : FnScope N ps (defScope st)) (hlen : ∀ ds r, A ds r → ds.length = ps.length)
    (hbody : ∀ (cdv : Value) (A' : Around) (outer : List Env) (s : Shared) (H : Hp) (E : XK), Room k (cx P w K mg base N x st f cdv A' outer s H E).A → Bd (cx P w K mg base N x st f cdv A' outer s H E) → ∀ ds r, A ds r →
      CSs (cx P w K mg base N x st f cdv A' outer s H E) (ds.map .dat ++ List.replicate (N.length - ps.length) .un) (defBody st) { nx := fun _ => r = .ok .non, rt := fun d _ => r = .ok d, er := fun e _ => r = .error e }) (hb : Binds K fd ps []) (hm : mg x = some (.ref f)) : FnOk P w K mg base (L2N.CX P w) (k + 1) f fd ps (spV K (detS A)) := by
  refine Fun.okXN Fu Sc (fun vs H Q E h => ?_) (fun cdv A' outer s H vs Q E hr h => ⟨_, pss_tw, ?_⟩)
  · obtain ⟨O, ρ, I, ds, r, rfl, a, _⟩ := h
    have := I.len
    rw [List.length_map, List.length_map] at this
    rw [this]
    exact hlen ds r a
  · obtain ⟨O, ρ, I, ds, r, rfl, a, po⟩ := h
    have hl : vs.length = ps.length := by
      have := I.len
      rw [List.length_map, List.length_map] at this
      rw [this]
      exact hlen ds r a
    intro pins s1 Iv
    rw [start_eq hl] at Iv
    have post := po rfl
    have exH : ExN H (VL.sup (ds.map .dat) H) := fun a o _ h => hid_of owns_dats h
    have sub : ∀ {ρ' : Lo} {H' : Hp} a, UU O (ds.map .dat) a → UU O ρ' a := fun a z => z.elim .inl fun z => absurd z owns_dats
    refine hbody cdv A' outer s H E hr (bd_cx Sc.nd) ds r a (VL.sup (ds.map .dat) H) O _ H _ (I.more _) ⟨fun ρ' σ' H' h J => ?_, fun d ρ' σ' H' v h J rv => ?_, fun _ _ _ h _ => h.elim, fun _ _ _ h _ => h.elim, _, takes_cx, fun er ρ' σ' H' cls dd h J re => ?_⟩ pins s1 Iv
    · subst h
      exact post H' (I.ext (exH.trans J.fr.nt) J.tb) .non .non
    · subst h
      exact post H' (I.ext (exH.trans J.fr.nt) J.tb) v (rv.mono (ex_hid fun a o _ n h => ⟨fun z => n (sub (H' := H') a z), h⟩))
    · subst h
      obtain ⟨e1, e2⟩ := re
      refine post H' (I.ext (exH.trans J.fr.nt) J.tb) cls dd ⟨e1, ?_⟩
      rcases e2 with e2 | ⟨aa, fv, h7, h8, h9⟩
      · exact .inl e2
      · have ex := ex_hid (U := UU O ρ') (U' := UU O (ds.map .dat)) (H := H') (H' := H') fun a o _ n h => ⟨fun z => n (sub (H' := H') a z), h⟩
        exact .inr ⟨aa, fv, h7, ex _ _ h8, RepF.mono ex h9⟩
/-- what the script's law wants -/
def A_script (ds : List D) (r : Res) : Prop := ∃ ns : List Int, ds = [.frl (ns.map D.int)] ∧ ns.length ≤ 63 ∧ r = .ok (.bl true)
theorem sp_script {K : PySem.W.Frag} {H : Hp} {a : Addr} {ns : List Int} (tb : TB H) (hl : ns.length ≤ 63) (hS : SqL K H a (ns.map V.int)) : spV K (detS A_script) [.ref a] H (fun v _ => v = .bl true) fun _ _ _ => False := by
  have hS' : SqL K (hid (fun _ => False) H) a (ns.map V.int) := by
    rcases hS with (h | ⟨o, h⟩) | h
    · exact .inl (.inl (hid_of id h))
    · exact .inl (.inr ⟨o, hid_of id h⟩)
    · exact .inr h
  refine ⟨fun _ => False, [Sl.dat (.frl (ns.map D.int))], args_ok (ds := [.frl (ns.map D.int)]) (.one (.frl hS' (Reps.ofInts ns))) (fun _ z => z.elim) tb, [.frl (ns.map D.int)], .ok (.bl true), rfl, ⟨ns, rfl, hl, rfl⟩, fun _ H' J v rv => ?_⟩
  cases rv
  rfl
/-- the walk of a law row: cs, the code objects whose tables grow -/
theorem walk_vl {l : PySem.W.OpenLaw} {k : Nat} {q : Program} {loose : List Str} {XP : (Str → Option Value) → Heap → Prop} {YP : World → Heap → Prop} {d : DefRec} {K : Params → PySem.W.Frag} {x : Str}
    (hn : l.most = some 63) (hdf : d.params.defaults = []) (hr : Room k callerA) (hY : ∀ (w : World) (h : Heap), YP w h → (K w.params).In h)
    (F : ∀ (w : World) (mg : Str → Option Value) (fa : Addr) (h : Heap), YP w h → XP mg h → (K w.params).In h → h.Ns mainGlobals mg → mg d.name = some (.ref fa) →
      (∀ (y : Str) (e : DefRec) (c P : Addr), (recsOf q).find? (fun e => e.name == y) = some e → PySem.W.tabIn (K w.params) y = some (c, P) → PySem.W.CodeHd h c P ∧ h.get? P = some (PySem.W.tabObj #[])) → ∃ (fd : FuncData) (cs : List (Addr × Addr)), (∀ p ∈ cs, h.get? p.2 = some { cls := .none, data := .fields #[] }) ∧ (∀ p ∈ cs, (K w.params).lookup p.2 = none) ∧ (∀ p ∈ cs, PySem.W.CodeHd h p.1 p.2) ∧
        (∀ p ∈ lamT, p.1 ∈ cs.map (·.2)) ∧ (∀ (s : Shared) (u : Value), BindsTo s fd ⟨[u], []⟩ [(x, u)]) ∧ ∀ base : Heap, (K w.params).In base → base.Ns mainGlobals mg → (∀ p ∈ cs, TabB base mg p.1 p.2) → FnOk l.prog w (K w.params) mg base (L2N.CX l.prog w) k fa fd [x] (spV (K w.params) (detS A_script))) :
    PySem.W.WalkO q loose XP YP l.row.toRowW d [] (fun f vs => PySem.call f vs) := by
  refine Att.attach_callB hn hdf fun w s₀ s₁ mg mb fa o pm cd doc a vs ns G Y ho hd hcd hmg hobj hints hlen hbits hg => ?_
  have KX := hY w _ Y
  obtain ⟨fd, cs, hT, nT, C, hL, hb, hF⟩ := F w mg fa _ Y G.X KX G.T.g hmg fun y e c P h1 h2 => PySem.W.tab_of G.T KX h1 h2
  refine law_callTs KX G.T.g G.T.b G.T.builtins G.T.nolimit hg hT nT C G.T.bmain hobj hints (Nat.le_trans hlen (by decide)) hr hF hb (fun H hH hS => sp_script (fun p hp => ?_) hlen hS) fun H e s' z => ?_
  · obtain ⟨r, hr1, hr2⟩ := List.mem_map.mp (hL p hp)
    exact TabS.nil (by rw [← hr2]; exact hH r hr1)
  · obtain ⟨_, _, _, _, _, _, _, _, _, _, _, _, z⟩ := z
    exact z
end VL
end

section
set_option Elab.async false
set_option linter.all false
set_option maxRecDepth 100000
set_option maxHeartbeats 4000000
namespace K88
open PySem PySem.Spec PyProof.Rows L2 VL
def topS (i : Nat) : Stmt := PySem.Challenge.pw_paidornot_k88_whole_ways_by_digits.main.body.getD i (.Pass ⟨0, 0, 0, 0⟩)
abbrev s_is_integer : Stmt := topS 1
theorem sc_is_integer : FnScope ["thing"] ["thing"] (defScope s_is_integer) := ⟨rfl, rfl, rfl, by decide +kernel, rfl, by decide +kernel, by decide +kernel⟩
abbrev s_is_within : Stmt := topS 2
theorem sc_is_within : FnScope ["thing", "low", "high"] ["thing", "low", "high"] (defScope s_is_within) := ⟨rfl, rfl, rfl, by decide +kernel, rfl, by decide +kernel, by decide +kernel⟩
abbrev s_check_ladder : Stmt := topS 10
theorem sc_check_ladder : FnScope ["coins", "at", "coin"] ["coins"] (defScope s_check_ladder) := ⟨rfl, rfl, rfl, by decide +kernel, rfl, by decide +kernel, by decide +kernel⟩
/-- the built-ins -/
structure Blt (mg : Str → Option Value) : Prop where
  isinstance : mg "isinstance" = none
  int : mg "int" = none
  bool : mg "bool" = none
  str : mg "str" = none
  tuple : mg "tuple" = none
  list : mg "list" = none
  len : mg "len" = none
  range : mg "range" = none
  enumerate : mg "enumerate" = none
  zip : mg "zip" = none
  all : mg "all" = none
  abs : mg "abs" = none
def isInt : D → Bool
  | .int _ => true
  | _ => false
def within (d : D) (lo hi : Int) : Bool := match d with
  | .int i => decide (lo ≤ i) && decide (i ≤ hi)
  | _ => false
def A_is_integer (ds : List D) (r : Res) : Prop := ∃ d, ds = [d] ∧ plD d = true ∧ r = .ok (.bl (isInt d))
def A_is_within (ds : List D) (r : Res) : Prop := ∃ d lo hi, ds = [d, .int lo, .int hi] ∧ plD d = true ∧ r = .ok (.bl (within d lo hi))
section
variable {P : Program} {w : World} {K : PySem.W.Frag} {mg : Str → Option Value} {base : Heap} {f : Addr} {fd : FuncData}
theorem ok_is_integer (T : Blt mg) (Fu : Fun K "is_integer" "is_integer" s_is_integer f fd) (hb : Binds K fd ["thing"] []) (hm : mg "is_integer" = some (.ref f)) : FnV P w K mg base 1 "is_integer" (detS A_is_integer) := by
  refine fn_pure (k := 0) Fu sc_is_integer hb hm (fun ds r ⟨d, e, _⟩ => by subst e; rfl) fun cdv A' outer s H E hr B ds r ⟨d, e, hp, er⟩ => ?_
  subst e er
  refine css_ret (c_and (c_isi T.isinstance (c_var 0) (c_bty "int" T.int) hp rfl) (fun _ => (c_one (c_not (c_isi T.isinstance (c_var 0) (c_bty "bool" T.bool) hp rfl))))) ?_
  cases d <;> first | rfl | cases hp
theorem ok_is_within (T : Blt mg) (F_is_integer : FnV P w K mg base 1 "is_integer" (detS A_is_integer)) (Fu : Fun K "is_within" "is_within" s_is_within f fd) (hb : Binds K fd ["thing", "low", "high"] []) (hm : mg "is_within" = some (.ref f)) : FnV P w K mg base 2 "is_within" (detS A_is_within) := by
  refine fn_pure (k := 1) Fu sc_is_within hb hm (fun ds r ⟨d, lo, hi, e, _⟩ => by subst e; rfl) fun cdv A' outer s H E hr B ds r ⟨d, lo, hi, e, hp, er⟩ => ?_
  subst e er
  cases hd : isInt d with
  | true =>
    obtain ⟨i, rfl⟩ : ∃ i, d = .int i := by cases d <;> first | exact ⟨_, rfl⟩ | cases hd
    refine css_ret (c_and (c_call F_is_integer (hr.mono (by decide)) (d_cons (c_var 0) d_nil) (fun R h => ⟨_, _, rfl, ⟨_, rfl, hp, rfl⟩, h⟩)) (fun _ => (c_one (c_leLe (c_var 1) (c_var 0) (fun _ => (c_var 2)))))) ?_
    rfl
  | false =>
    refine css_ret (c_and (l := false) (c_call F_is_integer (hr.mono (by decide)) (d_cons (c_var 0) d_nil) (fun R h => ⟨_, _, rfl, ⟨_, rfl, hp, rfl⟩, h⟩)) (fun h => ?_)) ?_
    · rw [hd] at h; cases h
    · cases d <;> first | rfl | cases hd
end
end K88
end

section
set_option Elab.async false
set_option linter.all false
set_option maxRecDepth 100000
set_option maxHeartbeats 4000000
namespace K88
open PySem PySem.Spec PyProof.Rows L2 VL
def MC : Int := 10 ^ 100
/-- the i-th of a ladder is right, given those ahead -/
def okAt (l : List D) (i : Nat) : Bool := match l[i]? with
  | some (.int c) => decide (1 ≤ c) && decide (c ≤ MC) && (if i = 0 then decide (c = 1) else match l[i - 1]? with
    | some (.int p) => decide (p < c) && decide (c % p = 0)
    | _ => false)
  | _ => false
def ladBad (l : List D) : Option Nat := (List.range l.length).find? fun j => !okAt l j
def ladRes (C : Addr) (d : D) : Res := match d with
  | .tup l => if 1 ≤ l.length ∧ l.length ≤ 60 then (match ladBad l with
    | some j => .error ⟨C, [("at", .int (j : Nat))]⟩
    | none => .ok .non) else .error ⟨C, [("at", .int (-1))]⟩
  | _ => .error ⟨C, [("at", .int (-1))]⟩
def plT (d : D) : Bool := match d with
  | .tup l => l.all plD
  | d => plD d
def A_check_ladder (C : Addr) (ds : List D) (r : Res) : Prop := ∃ d, ds = [d] ∧ plT d = true ∧ r = ladRes C d
theorem ladBad_some {l : List D} {i : Nat} (hi : i < l.length) (h : ∀ j, j < i → okAt l j = true) (hb : okAt l i = false) : ladBad l = some i := by
  unfold ladBad
  rw [List.find?_eq_some_iff_getElem]
  refine ⟨by rw [hb]; rfl, i, by rw [List.length_range]; exact hi, by rw [List.getElem_range], fun j hj => ?_⟩
  rw [List.getElem_range, h j hj]
  rfl
theorem ladBad_none {l : List D} (h : ∀ j, j < l.length → okAt l j = true) : ladBad l = none := by
  unfold ladBad
  rw [List.find?_eq_none]
  intro j hj
  rw [List.mem_range] at hj
  rw [h j hj]
  decide
structure Txt (K : PySem.W.Frag) (mg : Str → Option Value) (P : Program) (w : World) (base : Heap) (aN aC : Addr) : Prop extends Blt mg where
  MOST_COINS : ∃ t, mg "MOST_COINS" = some (.int 60 t)
  MOST_COIN : ∃ t, mg "MOST_COIN" = some (.int MC t)
section
variable {P : Program} {w : World} {K : PySem.W.Frag} {mg : Str → Option Value} {base : Heap} {f aN aC : Addr} {fd : FuncData}
theorem ok_check_ladder (T : Txt K mg P w base aN aC) (TC : ∀ X : Cx, X.prog = P → X.w = w → X.K = K → X.mg = mg → X.base = base → Xi X "BadCoins" "at" aC) (F_is_integer : FnV P w K mg base 1 "is_integer" (detS A_is_integer)) (Fu : Fun K "check_ladder" "check_ladder" s_check_ladder f fd) (hb : Binds K fd ["coins"] []) (hm : mg "check_ladder" = some (.ref f)) :
    FnV P w K mg base 3 "check_ladder" (detS (A_check_ladder aC)) := by
  refine fn_pure (k := 2) Fu sc_check_ladder hb hm (fun ds r ⟨d, e, _⟩ => by subst e; rfl) fun cdv A' outer s H E hr B ds r ⟨d, e, hp, er⟩ => ?_
  subst e er
  have TB := TC (cx P w K mg base ["coins", "at", "coin"] "check_ladder" s_check_ladder f cdv A' outer s H E) rfl rfl rfl rfl rfl
  by_cases ht : ∃ l, d = .tup l
  · obtain ⟨l, rfl⟩ := ht
    refine css_if (t_w (w_or (t_not (t_val (c_isi T.isinstance (c_var 0) (c_bty "tuple" T.tuple) rfl rfl))) (fun _ => (w_or1 (t_not (t_leLe c_int (c_lenT T.len (c_var 0)) (fun _ => (c_gint T.MOST_COINS)))))))) (fun hc => ?_) (fun hc => ?_)
    · refine css_raise1 B TB (hr.mono (by decide)) (c_neg c_int) ?_
      show ladRes aC (.tup l) = _
      have h1 : ¬ (1 ≤ l.length ∧ l.length ≤ 60) := by
        simp [isT, tyD] at hc
        omega
      unfold ladRes
      simp only [if_neg h1]
    · have h1 : 1 ≤ l.length ∧ l.length ≤ 60 := by
        simp [isT, tyD] at hc
        omega
      refine css_nil ?_
      have hl : ladRes aC (.tup l) = (match ladBad l with
        | some j => .error ⟨aC, [("at", .int (j : Nat))]⟩
        | none => .ok .non) := by
        unfold ladRes
        simp only [if_pos h1]
      refine css_for (T := .tp [.nm 1, .nm 2]) B (ci_enumT T.enumerate (c_var 0)) (tg_tp rfl (tgs_cons (tg_nm 1 B.nd) (tgs_cons (tg_nm 2 B.nd) tgs_nil)))
        (fun i ρ => (∃ a b, ρ = [.dat (.tup l), a, b]) ∧ ∀ j, j < i → okAt l j = true) ⟨⟨_, _, rfl⟩, fun j hj => absurd hj (Nat.not_lt_zero j)⟩ (fun i d ρ hd hJ => ?_) (fun ρ hJ => ?_)
      · obtain ⟨x, hx, rfl⟩ := enumD_inv hd
        obtain ⟨⟨a, b, rfl⟩, hj⟩ := hJ
        have hlt := (List.getElem?_eq_some_iff.mp hx).1
        have hpx : plD x = true := List.all_eq_true.mp hp x (List.mem_of_getElem? hx)
        refine ⟨_, .tp (.cons .nm (.cons .nm .nil)), ?_⟩
        cases hi : isInt x with
        | false =>
          have hbad : okAt l i = false := by
            unfold okAt
            rw [hx]
            cases x <;> first | rfl | cases hi
          refine css_if (k := true) (t_w (w_or (k := true) (l := false) (CT.eq (t_not (t_val (c_call F_is_integer (hr.mono (by decide)) (d_cons (c_var 2) d_nil) (fun R h => ⟨_, _, rfl, ⟨_, rfl, hpx, rfl⟩, h⟩)))) (by rw [hi]; rfl)) (fun h => Bool.noConfusion h))) (fun hc => ?_) (fun hc => Bool.noConfusion hc)
          refine css_raise1 B TB (hr.mono (by decide)) (c_var 1) ?_
          show ladRes aC (.tup l) = _
          rw [hl, ladBad_some hlt hj hbad]
        | true =>
          obtain ⟨c, rfl⟩ : ∃ c, x = .int c := by cases x <;> first | exact ⟨_, rfl⟩ | cases hi
          refine css_if (t_w (w_or (t_not (t_val (c_call F_is_integer (hr.mono (by decide)) (d_cons (c_var 2) d_nil) (fun R h => ⟨_, _, rfl, ⟨_, rfl, rfl, rfl⟩, h⟩)))) (fun _ => (w_or1 (t_not (t_leLe c_int (c_var 2) (fun _ => (c_gint T.MOST_COIN)))))))) (fun hc => ?_) (fun hc => ?_)
          · refine css_raise1 B TB (hr.mono (by decide)) (c_var 1) ?_
            show ladRes aC (.tup l) = _
            have hbad : okAt l i = false := by
              unfold okAt
              rw [hx]
              simp [isInt] at hc
              by_cases h : 1 ≤ c
              · have h2 : ¬ c ≤ MC := by omega
                simp [h2]
              · simp [h]
            rw [hl, ladBad_some hlt hj hbad]
          · have hr1 : 1 ≤ c ∧ c ≤ MC := by
              simp [isInt] at hc
              omega
            refine css_nil ?_
            cases i with
            | zero =>
              refine css_if (t_w (w_or (t_w (w_and (t_eqI (c_var 1) c_int) (fun _ => (w_and1 (t_neI (c_var 2) c_int))))) (fun _ => (w_or1 (t_w (w_and (l := false) (t_gt (c_var 1) c_int) (fun h => absurd h (by decide)))))))) (fun hc => ?_) (fun hc => ?_)
              · refine css_raise1 B TB (hr.mono (by decide)) (c_var 1) ?_
                show ladRes aC (.tup l) = _
                have hbad : okAt l 0 = false := by
                  unfold okAt
                  rw [hx]
                  simp at hc
                  simp [hc]
                rw [hl, ladBad_some hlt hj hbad]
              · refine css_nil (css_nil ⟨⟨_, _, rfl⟩, fun j hj' => ?_⟩)
                obtain rfl : j = 0 := by omega
                unfold okAt
                rw [hx]
                simp at hc
                subst hc
                simp
                exact hr1.2
            | succ i =>
              obtain ⟨pv, hpv⟩ : ∃ pv, l[i]? = some (.int pv) := by
                have h := hj i (Nat.lt_succ_self i)
                unfold okAt at h
                cases q : l[i]? with
                | none => rw [q] at h; cases h
                | some y =>
                  rw [q] at h
                  cases y <;> first | exact ⟨_, rfl⟩ | cases h
              have hp1 : 1 ≤ pv := by
                have h := hj i (Nat.lt_succ_self i)
                unfold okAt at h
                rw [hpv] at h
                simp at h
                exact h.1.1
              have hat : atI l (((i + 1 : Nat) : Int) - 1) = some (.int pv) := atI_i (k := i) (by omega) hpv
              refine css_if (t_w (w_or (t_w (w_and (l := false) (t_eqI (c_var 1) c_int) (fun h => absurd (of_decide_eq_true h) (by omega)))) (fun _ => (w_or1 (t_w (w_and (t_gt (c_var 1) c_int) (fun _ => (w_and1 (t_w (w_or (t_le (c_var 2) (c_ixT (c_var 0) (c_sub (c_var 1) c_int) hat)) (fun _ => (w_or1 (t_neI (c_mod (c_var 2) (c_ixT (c_var 0) (c_sub (c_var 1) c_int) hat) (by omega)) c_int))))))))))))) (fun hc => ?_) (fun hc => ?_)
              · refine css_raise1 B TB (hr.mono (by decide)) (c_var 1) ?_
                show ladRes aC (.tup l) = _
                have hbad : okAt l (i + 1) = false := by
                  unfold okAt
                  rw [hx]
                  simp at hc
                  simp [hpv]
                  intro _ _ h
                  rcases hc with h2 | h2
                  · omega
                  · exact h2
                rw [hl, ladBad_some hlt hj hbad]
              · refine css_nil (css_nil ⟨⟨_, _, rfl⟩, fun j hj' => ?_⟩)
                by_cases hji : j < i + 1
                · exact hj j hji
                · obtain rfl : j = i + 1 := by omega
                  unfold okAt
                  rw [hx]
                  simp at hc
                  simp [hr1, hpv, hc]
      · refine css_nil ?_
        show ladRes aC (.tup l) = _
        obtain ⟨_, hj⟩ := hJ
        rw [hl, ladBad_none fun j h => hj j (by rw [enumD_len]; exact h)]
  · have hres : ladRes aC d = .error ⟨aC, [("at", .int (-1))]⟩ := by
      unfold ladRes
      cases d <;> first | rfl | exact absurd ⟨_, rfl⟩ ht
    have hpd : plD d = true := by cases d <;> first | rfl | exact absurd ⟨_, rfl⟩ ht | exact hp
    have hf : isT "tuple" d = false := by cases d <;> first | rfl | exact absurd ⟨_, rfl⟩ ht
    refine css_if (k := true) (t_w (w_or (k := true) (l := false) (CT.eq (t_not (t_val (c_isi T.isinstance (c_var 0) (c_bty "tuple" T.tuple) hpd rfl))) (by rw [hf]; rfl)) (fun h => Bool.noConfusion h))) (fun hc => ?_) (fun hc => Bool.noConfusion hc)
    refine css_raise1 B TB (hr.mono (by decide)) (c_neg c_int) ?_
    show ladRes aC d = _
    rw [hres]
end
end K88
end

section
set_option Elab.async false
set_option linter.all false
set_option maxRecDepth 100000
set_option maxHeartbeats 4000000
namespace K88
open PySem PySem.Spec PyProof.Rows L2 VL
abbrev s_digits_of : Stmt := topS 11
theorem sc_digits_of : FnScope ["coins", "number", "found", "rest", "at"] ["coins", "number"] (defScope s_digits_of) := ⟨rfl, rfl, rfl, by decide +kernel, rfl, by decide +kernel, by decide +kernel⟩
abbrev s_check_amount : Stmt := topS 12
theorem sc_check_amount : FnScope ["number"] ["number"] (defScope s_check_amount) := ⟨rfl, rfl, rfl, by decide +kernel, rfl, by decide +kernel, by decide +kernel⟩
abbrev s_digits : Stmt := topS 13
theorem sc_digits : FnScope ["coins", "number"] ["coins", "number"] (defScope s_digits) := ⟨rfl, rfl, rfl, by decide +kernel, rfl, by decide +kernel, by decide +kernel⟩
/-- the counts, the last coin first taken; the rest -/
def digGo : List Int → Int → List Int × Int
  | [], n => ([], n)
  | c :: cs, n => let p := digGo cs n; (p.2 / c :: p.1, p.2 % c)
def digitsOf (cs : List Int) (n : Int) : List Int := (digGo cs n).1
theorem digGo_len : ∀ (cs : List Int) (n : Int), (digGo cs n).1.length = cs.length
  | [], _ => rfl
  | c :: cs, n => by
    show (digGo cs n).1.length + 1 = cs.length + 1
    rw [digGo_len]
theorem digitsOf_len (cs : List Int) (n : Int) : (digitsOf cs n).length = cs.length := digGo_len cs n
/-- a divisor in bounds -/
def Dv (c : Int) : Prop := 0 < c ∧ c.natAbs.log2 < 9000
def A_digits_of (ds : List D) (r : Res) : Prop := ∃ cs n, ds = [.tup (cs.map D.int), .int n] ∧ (∀ c ∈ cs, Dv c) ∧ cs.length ≤ 1000 ∧ r = .ok (.tup ((digitsOf cs n).map D.int))
/-- what stands in found when the coins from k on are taken -/
def digAt (cs : List Int) (n : Int) (k : Nat) : List Int := List.replicate k 0 ++ (digGo (cs.drop k) n).1
theorem digAt_step {cs : List Int} {n : Int} {k : Nat} {c : Int} (h : cs[k]? = some c) : (digAt cs n (k + 1)).set k ((digGo (cs.drop (k + 1)) n).2 / c) = digAt cs n k ∧ (digGo (cs.drop k) n).2 = (digGo (cs.drop (k + 1)) n).2 % c := by
  have hk : k < cs.length := (List.getElem?_eq_some_iff.mp h).1
  have hd : cs.drop k = c :: cs.drop (k + 1) := by
    rw [List.drop_eq_getElem_cons hk]
    congr 1
    rw [List.getElem?_eq_getElem hk] at h
    exact Option.some.inj h
  unfold digAt
  rw [hd]
  refine ⟨?_, rfl⟩
  rw [List.replicate_succ', List.append_assoc, List.set_append, if_neg (by rw [List.length_replicate]; omega), List.length_replicate, Nat.sub_self]
  rfl
section
variable {P : Program} {w : World} {K : PySem.W.Frag} {mg : Str → Option Value} {base : Heap} {f aN aC : Addr} {fd : FuncData}
theorem ok_digits_of (T : Blt mg) (Fu : Fun K "digits_of" "digits_of" s_digits_of f fd) (hb : Binds K fd ["coins", "number"] []) (hm : mg "digits_of" = some (.ref f)) : FnV P w K mg base 1 "digits_of" (detS A_digits_of) := by
  refine fn_pure (k := 0) Fu sc_digits_of hb hm (fun ds r ⟨d, n, e, _⟩ => by subst e; rfl) fun cdv A' outer s H E hr B ds r ⟨cs, n, e, hcs, hl, er⟩ => ?_
  subst e er
  have hlen : (cs.map D.int).length = cs.length := List.length_map _
  refine css_parN 2 3 B (n_repL (CN.ce (n_lst (d_cons c_int d_nil) (by decide))) (c_lenT T.len (c_var 0)) (by rw [hlen]; omega) (by rw [hlen]; exact sz (by simp; omega))) (c_var 1) (fun q => ?_)
  have e0 : (List.replicate (((cs.map D.int).length : Int)).toNat [D.int 0]).flatten = (digAt cs n cs.length).map D.int := by
    rw [flat1, hlen, Int.toNat_natCast]
    unfold digAt
    rw [List.drop_length, List.map_append, List.map_replicate]
    show _ = _ ++ []
    rw [List.append_nil]
  rw [e0]
  refine css_for (T := .nm 4) B (ci_down T.range (c_sub (c_lenT T.len (c_var 0)) c_int) (c_neg c_int) (c_neg c_int) (by rw [hlen]; omega)) (tg_nm 4 B.nd)
    (fun i ρ => i ≤ cs.length ∧ ∃ a, ρ = [.dat (.tup (cs.map D.int)), .dat (.int n), .mut q ((digAt cs n (cs.length - i)).map D.int), .dat (.int (digGo (cs.drop (cs.length - i)) n).2), a]) ⟨Nat.zero_le _, _, by rw [Nat.sub_zero, List.drop_length]; rfl⟩ (fun i d ρ hd hJ => ?_) (fun ρ hJ => ?_)
  · obtain ⟨hi, rfl⟩ := rangeDn_inv hd
    obtain ⟨_, a, rfl⟩ := hJ
    have hi' : i < cs.length := by rw [hlen] at hi; omega
    refine ⟨_, .nm, ?_⟩
    obtain ⟨k, hk⟩ : ∃ k, cs.length - i = k + 1 := ⟨cs.length - i - 1, by omega⟩
    have hc : cs[k]? = some (cs[k]'(by omega)) := List.getElem?_eq_getElem _
    generalize cs[k]'(by omega) = c at hc
    have hat : atI (cs.map D.int) (((cs.map D.int).length : Int) - 1 - (i : Nat)) = some (.int c) := atI_i (k := k) (by rw [hlen]; omega) (at_ints hc)
    have hdv := hcs c (List.mem_of_getElem? hc)
    obtain ⟨s1, s2⟩ := digAt_step (n := n) hc
    rw [hk]
    refine css_setIxNm (j := k) 2 3 B (c_tup (d_cons (c_divW (c_var 3) (c_ixT (c_var 0) (c_var 4) hat) hdv) (d_cons (c_mod (c_var 3) (c_ixT (c_var 0) (c_var 4) hat) hdv.1) d_nil)) (sz (by simp))) (c_var 4) rfl (ixN_nat (by rw [hlen]; omega) (by rw [List.length_map]; unfold digAt; rw [List.length_append, List.length_replicate, digGo_len]; omega)) ?_
    refine css_nil ⟨by omega, .dat (.int (((cs.map D.int).length : Int) - 1 - (i : Nat))), ?_⟩
    have e3 : cs.length - (i + 1) = k := by omega
    rw [e3, ← s1, s2, List.map_set]
    rfl
  · obtain ⟨_, a, rfl⟩ := hJ
    have e4 : (rangeDn (((cs.map D.int).length : Int) - 1) (((cs.map D.int).length : Int) - 1 - -1).toNat).length = cs.length := by rw [rangeDn_len, hlen]; omega
    rw [e4, Nat.sub_self]
    refine css_ret (c_bor ?_ (c_tupL T.tuple (c_var 2))) ?_
    · exact immutL_ints _
    · rfl
def A_check_amount (C : Addr) (ds : List D) (r : Res) : Prop := ∃ d, ds = [d] ∧ plD d = true ∧ r = if within d 0 (MC * MC) then .ok .non else .error ⟨C, []⟩
theorem mc_mul : CMulW MC MC := by unfold CMulW MC; decide +kernel
theorem ok_check_amount (T : Txt K mg P w base aN aC) (TN : ∀ X : Cx, X.prog = P → X.w = w → X.K = K → X.mg = mg → X.base = base → Xc X "BadNumber" aN) (F_is_within : FnV P w K mg base 2 "is_within" (detS A_is_within)) (Fu : Fun K "check_amount" "check_amount" s_check_amount f fd) (hb : Binds K fd ["number"] []) (hm : mg "check_amount" = some (.ref f)) : FnV P w K mg base 3 "check_amount" (detS (A_check_amount aN)) := by
  refine fn_pure (k := 2) Fu sc_check_amount hb hm (fun ds r ⟨d, e, _⟩ => by subst e; rfl) fun cdv A' outer s H E hr B ds r ⟨d, e, hp, er⟩ => ?_
  subst e er
  have TB := TN (cx P w K mg base ["number"] "check_amount" s_check_amount f cdv A' outer s H E) rfl rfl rfl rfl rfl
  refine css_if (t_not (t_val (c_call F_is_within (hr.mono (by decide)) (d_cons (c_var 0) (d_cons c_int (d_cons (c_mulW (c_gint T.MOST_COIN) (c_gint T.MOST_COIN) mc_mul) d_nil))) (fun R h => ⟨_, _, rfl, ⟨_, _, _, rfl, hp, rfl⟩, h⟩)))) (fun hc => ?_) (fun hc => ?_)
  · refine css_raise0 B TB ?_
    show (if within d 0 (MC * MC) = true then _ else _) = _
    rw [if_neg (by simpa using hc)]
  · refine css_nil (css_nil ?_)
    show (if within d 0 (MC * MC) = true then _ else _) = _
    rw [if_pos (by simpa using hc)]
end
end K88
end

section
set_option Elab.async false
set_option linter.all false
set_option maxRecDepth 100000
set_option maxHeartbeats 4000000
namespace K88
open PySem PySem.Spec PyProof.Rows L2 VL
abbrev s_summed_row : Stmt := topS 15
theorem sc_summed_row : FnScope ["row", "ratio", "digit", "values", "total", "top"] ["row", "ratio", "digit"] (defScope s_summed_row) := ⟨rfl, rfl, rfl, by decide +kernel, rfl, by decide +kernel, by decide +kernel⟩
abbrev s_value_at : Stmt := topS 16
abbrev N_value_at : List Str := ["row", "number", "total", "lines", "pick", "at", "line", "one", "other"]
theorem sc_value_at : FnScope N_value_at ["row", "number"] (defScope s_value_at) := ⟨rfl, rfl, rfl, by decide +kernel, rfl, by decide +kernel, by decide +kernel⟩
/-! ### value_at -/
def diffL (l : List Int) : List Int := List.zipWith (fun a b => b - a) l (l.drop 1)
def diffN (row : List Int) : Nat → List Int
  | 0 => row
  | n + 1 => diffL (diffN row n)
def pk (n : Int) : Nat → Int
  | 0 => 1
  | k + 1 => pk n k * (n - k) / (k + 1)
def vaTo (row : List Int) (n : Int) : Nat → Int
  | 0 => 0
  | k + 1 => vaTo row n k + (diffN row k).headD 0 * pk n k
def valueAt (row : List Int) (n : Int) : Int := vaTo row n row.length
theorem diffL_len (l : List Int) : (diffL l).length = l.length - 1 := by
  unfold diffL
  rw [List.length_zipWith, List.length_drop]
  omega
theorem diffN_len (row : List Int) : ∀ n, (diffN row n).length = row.length - n
  | 0 => rfl
  | n + 1 => by
    show (diffL (diffN row n)).length = _
    rw [diffL_len, diffN_len row n]
    omega
/-- sizes -/
def Lt2 (b : Nat) (x : Int) : Prop := x.natAbs < 2 ^ b
theorem Lt2.log {b : Nat} {x : Int} (h : Lt2 b x) : x.natAbs.log2 ≤ b := by
  by_cases h0 : x.natAbs = 0
  · rw [h0]; exact Nat.zero_le _
  · exact Nat.le_of_lt ((Nat.log2_lt h0).mpr h)
theorem Lt2.mono {b c : Nat} {x : Int} (h : Lt2 b x) (hc : b ≤ c) : Lt2 c x := Nat.lt_of_lt_of_le h (Nat.pow_le_pow_right (by decide) hc)
theorem Lt2.mul {b c : Nat} {x y : Int} (h : Lt2 b x) (g : Lt2 c y) : Lt2 (b + c) (x * y) := by
  unfold Lt2 at *
  rw [Int.natAbs_mul, Nat.pow_add]
  exact Nat.mul_lt_mul'' h g
theorem Lt2.sub {b : Nat} {x y : Int} (h : Lt2 b x) (g : Lt2 b y) : Lt2 (b + 1) (y - x) := by
  unfold Lt2 at *
  rw [Nat.pow_succ]
  omega
theorem Lt2.add {b : Nat} {x y : Int} (h : Lt2 b x) (g : Lt2 b y) : Lt2 (b + 1) (x + y) := by
  unfold Lt2 at *
  rw [Nat.pow_succ]
  omega
theorem Lt2.div {b : Nat} {x : Int} (h : Lt2 b x) (k : Nat) : Lt2 b (x / ((k : Int) + 1)) := by
  unfold Lt2 at *
  refine Nat.lt_of_le_of_lt ?_ h
  have := Int.natAbs_ediv_le_natAbs x ((k : Int) + 1)
  omega
theorem diffL_lt {b : Nat} {l : List Int} (h : ∀ x ∈ l, Lt2 b x) : ∀ x ∈ diffL l, Lt2 (b + 1) x := fun x hx => by
  unfold diffL at hx
  obtain ⟨i, hi⟩ := List.getElem?_of_mem hx
  rw [List.getElem?_zipWith] at hi
  cases h1 : l[i]? with
  | none => rw [h1] at hi; cases hi
  | some u =>
    cases h2 : (l.drop 1)[i]? with
    | none => rw [h1, h2] at hi; cases hi
    | some v =>
      rw [h1, h2] at hi
      cases hi
      exact Lt2.sub (h u (List.mem_of_getElem? h1)) (h v (List.mem_of_mem_drop (List.mem_of_getElem? h2)))
theorem diffN_lt {b : Nat} {row : List Int} (h : ∀ x ∈ row, Lt2 b x) : ∀ n, ∀ x ∈ diffN row n, Lt2 (b + n) x
  | 0 => h
  | n + 1 => diffL_lt (diffN_lt h n)
theorem pk_lt {c : Nat} {n : Int} (hn : Lt2 c n) (hc : 10 ≤ c) : ∀ k, k ≤ 1000 → Lt2 ((c + 1) * k + 1) (pk n k)
  | 0, _ => by unfold Lt2 pk; rw [Nat.mul_zero]; decide
  | k + 1, hk => by
    show Lt2 _ (pk n k * (n - k) / (k + 1))
    have h1 := pk_lt hn hc k (by omega)
    have hk2 : Lt2 c (k : Int) := by
      unfold Lt2
      have : 2 ^ 10 ≤ 2 ^ c := Nat.pow_le_pow_right (by decide) hc
      omega
    have h2 := (h1.mul (Lt2.sub hk2 hn)).div k
    refine h2.mono ?_
    rw [Nat.mul_succ]
    omega
def A_value_at (ds : List D) (r : Res) : Prop := ∃ row n b c, ds = [.lst (row.map D.int), .int n] ∧ 1 ≤ row.length ∧ row.length ≤ 60 ∧ (∀ x ∈ row, Lt2 b x) ∧ Lt2 c n ∧ 10 ≤ c ∧ b ≤ 400000 ∧ c ≤ 5000 ∧ r = .ok (.int (valueAt row n))
def linesD (row : List Int) (k : Nat) : List D := (List.range (k + 1)).map fun i => D.lst ((diffN row i).map D.int)
theorem linesD_last (row : List Int) (k : Nat) : atI (linesD row k) (-1) = some (D.lst ((diffN row k).map D.int)) := by
  unfold linesD
  rw [List.range_succ, List.map_append]
  exact atI_last _ _
def subD : D → D
  | .tup [.int a, .int b] => .int (b - a)
  | _ => .non
theorem zip_diff (l : List Int) : (zipD (l.map D.int) (VL.cutD (l.map D.int) (some 1) none)).map subD = (diffL l).map D.int := by
  have hc : VL.cutD (l.map D.int) (some 1) none = (l.drop 1).map D.int := by
    unfold VL.cutD
    rw [List.length_map, show HT.sIx l.length 0 (some 1) = min 1 l.length from HT.sIx_nat l.length 0 1, HT.sIx_none]
    cases l with
    | nil => rfl
    | cons x r =>
      rw [show min 1 (x :: r).length = 1 by rw [List.length_cons]; omega]
      show List.take ((x :: r).length - 1) (r.map D.int) = r.map D.int
      rw [List.take_of_length_le (by rw [List.length_map, List.length_cons]; omega)]
  rw [hc]
  unfold zipD diffL
  apply List.ext_getElem?
  intro i
  rw [List.getElem?_map, List.getElem?_map, List.getElem?_zipWith, List.getElem?_zipWith, List.getElem?_map, List.getElem?_map]
  cases l[i]? <;> cases (l.drop 1)[i]? <;> rfl
section
variable {P : Program} {w : World} {K : PySem.W.Frag} {mg : Str → Option Value} {base : Heap} {f aN aC : Addr} {fd : FuncData}
theorem ok_value_at (T : Blt mg) (Fu : Fun K "value_at" "value_at" s_value_at f fd) (hb : Binds K fd ["row", "number"] []) (hm : mg "value_at" = some (.ref f)) : FnV P w K mg base 1 "value_at" (detS A_value_at) := by
  refine fn_pure (k := 0) Fu sc_value_at hb hm (fun ds r ⟨d, n, _, _, e, _⟩ => by subst e; rfl) fun cdv A' outer s H E hr B ds r ⟨row, n, b, c, e, hl1, hl2, hrow, hn, hc10, hb2, hc2, er⟩ => ?_
  subst e er
  refine css_par3N 2 3 4 B c_int (n_lst (d_cons (CN.ce (n_listL T.list (c_var 0))) d_nil) (sz (by simp))) c_int (fun q => ?_)
  refine css_while B (fun m ρ => ∃ k, m = row.length - 1 - k ∧ k < row.length ∧ ρ = [.dat (.lst (row.map D.int)), .dat (.int n), .dat (.int 0), .mut q (linesD row k), .dat (.int 1), .un, .un, .un, .un]) (row.length - 1) ⟨0, by omega, by omega, rfl⟩ (fun m ρ hJ => ?_)
  obtain ⟨k, rfl, hk, rfl⟩ := hJ
  have hlen : ((diffN row k).map D.int).length = row.length - k := by rw [List.length_map, diffN_len]
  refine ⟨_, _, t_bor (t_gt (c_lenL T.len (c_ixL (c_var 3) (c_neg c_int) (linesD_last row k))) c_int), fun hc => ?_, fun hc => ?_⟩
  · have hk1 : k + 1 < row.length := by
      rw [hlen] at hc
      have := of_decide_eq_true hc
      omega
    refine css_append 3 (CN.ce (n_bor (by rw [zip_diff]; exact immutL_ints _) (n_lc0 (T := .tp [.nm 7, .nm 8]) subD (ci_zipL T.zip (c_ixL (c_var 3) (c_neg c_int) (linesD_last row k)) (CN.ce (n_slL (c_ixL (c_var 3) (c_neg c_int) (linesD_last row k)) (o_some c_int) o_none))) [("one", 7), ("other", 8)] B (blkOk_by (N := N_value_at) (sc := defScope s_value_at) (by decide +kernel))
      (fun _ _ _ _ _ => tg_tp rfl (tgs_cons (tg_nm 7 B.nd) (tgs_cons (tg_nm 8 B.nd) tgs_nil))) (by decide) ?_ (fun i d hd => ?_) ?_))) rfl rfl ?_ ?_
    · intro k p ds hk
      simp at hk
      rcases hk with rfl | rfl <;> (intro h; cases h)
    · obtain ⟨x, y, h1, h2, rfl⟩ := zipD_inv hd
      obtain ⟨u, rfl⟩ : ∃ u, x = .int u := by
        obtain ⟨u, _, e⟩ := List.mem_map.mp (List.mem_of_getElem? h1)
        exact ⟨u, e.symm⟩
      obtain ⟨v, rfl⟩ : ∃ v, y = .int v := by
        unfold VL.cutD at h2
        obtain ⟨v, _, e⟩ := List.mem_map.mp (List.mem_of_mem_drop (List.mem_of_mem_take (List.mem_of_getElem? h2)))
        exact ⟨v, e.symm⟩
      exact ⟨_, .tp (.cons .nm (.cons .nm .nil)), (fun k p es h => by
        have := frz_owns (ρ := [.dat (.lst (row.map D.int)), .dat (.int n), .dat (.int 0), .mut q (linesD row _), .dat (.int 1), .un, .un, .un, .un]) ⟨es, List.mem_of_getElem? h⟩
        exact this.elim), fun _ _ _ _ _ => c_sub (c_var 8) (c_var 7)⟩
    · refine szl ?_
      unfold zipD
      rw [List.length_zipWith, hlen]
      omega
    · refine szl ?_
      unfold linesD
      rw [List.length_map, List.length_range]
      omega
    · refine css_nil ⟨row.length - 1 - (k + 1), by omega, k + 1, rfl, hk1, ?_⟩
      have e1 : linesD row (k + 1) = linesD row k ++ [D.lst ((diffN row (k + 1)).map D.int)] := by
        unfold linesD
        rw [List.range_succ (n := k + 1), List.map_append]
        rfl
      rw [e1, zip_diff]
      rfl
  · have hk1 : k = row.length - 1 := by
      rw [hlen] at hc
      have := of_decide_eq_false hc
      omega
    subst hk1
    refine css_freeze (i := 3) rfl ?_
    have hlL : (linesD row (row.length - 1)).length = row.length := by
      unfold linesD
      rw [List.length_map, List.length_range]
      omega
    refine css_for (T := .tp [.nm 5, .nm 6]) B (ci_enumL T.enumerate (c_var 3)) (tg_tp rfl (tgs_cons (tg_nm 5 B.nd) (tgs_cons (tg_nm 6 B.nd) tgs_nil)))
      (fun i ρ => i ≤ row.length ∧ ∃ u v, ρ = [.dat (.lst (row.map D.int)), .dat (.int n), .dat (.int (vaTo row n i)), .dat (.lst (linesD row (row.length - 1))), .dat (.int (pk n i)), u, v, .un, .un]) ⟨Nat.zero_le _, _, _, rfl⟩ (fun i d ρ hd hJ => ?_) (fun ρ hJ => ?_)
    · obtain ⟨x, hx, rfl⟩ := enumD_inv hd
      obtain ⟨_, u, v, rfl⟩ := hJ
      have hi : i < row.length := by
        have := (List.getElem?_eq_some_iff.mp hx).1
        omega
      obtain rfl : x = D.lst ((diffN row i).map D.int) := by
        unfold linesD at hx
        rw [List.getElem?_map, List.getElem?_range (by omega)] at hx
        exact (Option.some.inj hx).symm
      have h0 : (diffN row i)[0]? = some ((diffN row i).headD 0) := by
        have hl := diffN_len row i
        cases q : diffN row i with
        | nil => rw [q] at hl; simp at hl; omega
        | cons z r => rfl
      have b1 := (diffN_lt hrow i _ (List.mem_of_getElem? h0)).log
      have b2 := (pk_lt hn hc10 i (by omega)).log
      have b3 : Lt2 (c + 1) (n - (i : Nat)) := Lt2.sub (by
        unfold Lt2
        have : 2 ^ 10 ≤ 2 ^ c := Nat.pow_le_pow_right (by decide) hc10
        omega) hn
      have b3 := b3.log
      have b4 : (c + 1) * i ≤ (c + 1) * 60 := Nat.mul_le_mul_left _ (by omega)
      refine ⟨_, .tp (.cons .nm (.cons .nm .nil)), ?_⟩
      refine css_asg 2 B (c_add (c_var 2) (c_mulW (c_ixL (c_var 6) c_int (atI_i (k := 0) rfl (at_ints h0))) (c_var 4) ?_)) ?_
      · unfold CMulW
        omega
      refine css_asg 4 B (c_div (c_mulW (c_var 4) (c_sub (c_var 1) (c_var 5)) ?_) (c_add (c_var 5) c_int) ?_) ?_
      · unfold CMulW
        omega
      · exact ⟨by omega, by omega⟩
      exact css_nil ⟨hi, _, _, rfl⟩
    · obtain ⟨_, u, v, rfl⟩ := hJ
      refine css_ret (c_var 2) ?_
      rw [enumD_len, hlL]
      rfl
end
end K88
end

section
set_option Elab.async false
set_option linter.all false
set_option maxRecDepth 100000
set_option maxHeartbeats 4000000
namespace K88
open PySem PySem.Spec PyProof.Rows L2 VL
abbrev s_ways_digits : Stmt := topS 14
abbrev N_ways_digits : List Str := ["coins", "number", "row", "at"]
theorem sc_ways_digits : FnScope N_ways_digits ["coins", "number"] (defScope s_ways_digits) := ⟨rfl, rfl, rfl, by decide +kernel, rfl, by decide +kernel, by decide +kernel⟩
/-- the totals ahead of the k-th -/
def totTo (row : List Int) (ratio digit : Int) : Nat → Int
  | 0 => 0
  | k + 1 => totTo row ratio digit k + valueAt row (ratio * k + digit)
def sumRow (row : List Int) (ratio digit : Int) : List Int := (List.range (row.length + 1)).map fun k => totTo row ratio digit (k + 1)
theorem sumRow_len (row : List Int) (ratio digit : Int) : (sumRow row ratio digit).length = row.length + 1 := by unfold sumRow; rw [List.length_map, List.length_range]
def bump (b c : Nat) : Nat := b + 300 + 61 * (c + 1)
theorem vaTo_lt {row : List Int} {n : Int} {b c : Nat} (hrow : ∀ x ∈ row, Lt2 b x) (hn : Lt2 c n) (hc : 10 ≤ c) (hl : row.length ≤ 60) : ∀ k, k ≤ 60 → Lt2 (b + 62 + (c + 1) * 60 + k) (vaTo row n k)
  | 0, _ => by
    unfold Lt2 vaTo
    exact Nat.pow_pos (by decide)
  | k + 1, hk => by
    have h1 := vaTo_lt hrow hn hc hl k (by omega)
    have h2 : Lt2 (b + k) ((diffN row k).headD 0) := by
      cases q : diffN row k with
      | nil =>
        unfold Lt2
        exact Nat.pow_pos (by decide)
      | cons z r => exact diffN_lt hrow k z (by rw [q]; exact List.mem_cons_self)
    have h3 := pk_lt hn hc k (by omega)
    have h4 : (c + 1) * k ≤ (c + 1) * 60 := Nat.mul_le_mul_left _ (by omega)
    have h5 := (h2.mul h3).mono (c := b + 62 + (c + 1) * 60 + k) (by omega)
    show Lt2 _ (vaTo row n k + _)
    exact (h1.add h5).mono (by omega)
theorem valueAt_lt {row : List Int} {n : Int} {b c : Nat} (hrow : ∀ x ∈ row, Lt2 b x) (hn : Lt2 c n) (hc : 10 ≤ c) (hl : row.length ≤ 60) : Lt2 (b + 122 + (c + 1) * 60) (valueAt row n) := (vaTo_lt hrow hn hc hl row.length hl).mono (by omega)
theorem totTo_lt {row : List Int} {ratio digit : Int} {b c : Nat} (hrow : ∀ x ∈ row, Lt2 b x) (hn : ∀ t : Nat, t ≤ row.length → Lt2 c (ratio * t + digit)) (hc : 10 ≤ c) (hl : row.length ≤ 60) : ∀ k, k ≤ row.length + 1 → Lt2 (b + 122 + (c + 1) * 60 + k) (totTo row ratio digit k)
  | 0, _ => by
    unfold Lt2 totTo
    exact Nat.pow_pos (by decide)
  | k + 1, hk => by
    have h1 := totTo_lt hrow hn hc hl k (by omega)
    have h2 := (valueAt_lt hrow (hn k (by omega)) hc hl).mono (c := b + 122 + (c + 1) * 60 + k) (by omega)
    exact (h1.add h2).mono (by omega)
theorem sumRow_lt {row : List Int} {ratio digit : Int} {b c : Nat} (hrow : ∀ x ∈ row, Lt2 b x) (hn : ∀ t : Nat, t ≤ row.length → Lt2 c (ratio * t + digit)) (hc : 10 ≤ c) (hl : row.length ≤ 60) : ∀ x ∈ sumRow row ratio digit, Lt2 (bump b c) x := fun x hx => by
  unfold sumRow at hx
  obtain ⟨k, hk, rfl⟩ := List.mem_map.mp hx
  rw [List.mem_range] at hk
  refine (totTo_lt hrow hn hc hl (k + 1) (by omega)).mono ?_
  unfold bump
  omega
def A_summed_row (ds : List D) (r : Res) : Prop := ∃ row ratio digit b c, ds = [.lst (row.map D.int), .int ratio, .int digit] ∧ 1 ≤ row.length ∧ row.length ≤ 60 ∧ (∀ x ∈ row, Lt2 b x) ∧ (∀ t : Nat, t ≤ row.length → Lt2 c (ratio * t + digit)) ∧ 10 ≤ c ∧ b ≤ 400000 ∧ c ≤ 5000 ∧ r = .ok (.lst ((sumRow row ratio digit).map D.int))
section
variable {P : Program} {w : World} {K : PySem.W.Frag} {mg : Str → Option Value} {base : Heap} {f aN aC : Addr} {fd : FuncData}
theorem ok_summed_row (T : Blt mg) (F_value_at : FnV P w K mg base 1 "value_at" (detS A_value_at)) (Fu : Fun K "summed_row" "summed_row" s_summed_row f fd) (hb : Binds K fd ["row", "ratio", "digit"] []) (hm : mg "summed_row" = some (.ref f)) : FnV P w K mg base 2 "summed_row" (detS A_summed_row) := by
  refine fn_pure (k := 1) Fu sc_summed_row hb hm (fun ds r ⟨d, n, _, _, _, e, _⟩ => by subst e; rfl) fun cdv A' outer s H E hr B ds r ⟨row, ratio, digit, b, c, e, hl1, hl2, hrow, hn, hc10, hb2, hc2, er⟩ => ?_
  subst e er
  have hlen : (row.map D.int).length = row.length := List.length_map _
  refine css_parN 3 4 B (n_lst d_nil (sz (by simp))) c_int (fun q => ?_)
  refine css_for (T := .nm 5) B (ci_range1 T.range (c_add (c_lenL T.len (c_var 0)) c_int) (by rw [hlen]; omega)) (tg_nm 5 B.nd)
    (fun i ρ => i ≤ row.length + 1 ∧ ∃ a, ρ = [.dat (.lst (row.map D.int)), .dat (.int ratio), .dat (.int digit), .mut q (((List.range i).map fun k => totTo row ratio digit (k + 1)).map D.int), .dat (.int (totTo row ratio digit i)), a]) ⟨Nat.zero_le _, _, rfl⟩ (fun i d ρ hd hJ => ?_) (fun ρ hJ => ?_)
  · obtain ⟨hi, rfl⟩ := rangeD_inv hd
    obtain ⟨_, a, rfl⟩ := hJ
    have hi' : i ≤ row.length := by rw [hlen] at hi; omega
    have e0 : (0 : Int) + (i : Nat) = (i : Nat) := by omega
    rw [e0]
    refine ⟨_, .nm, ?_⟩
    refine css_asg 4 B (c_add (c_var 4) (c_call F_value_at (hr.mono (by decide)) (d_cons (c_var 0) (d_cons (c_add (c_mul (c_var 1) (c_var 5) ?_) (c_var 2)) d_nil)) (fun R h => ⟨_, _, rfl, ⟨row, _, b, c, rfl, hl1, hl2, hrow, hn i hi', hc10, hb2, hc2, rfl⟩, h⟩))) ?_
    · exact .inr ⟨by omega, by omega⟩
    refine css_append 3 (c_var 4) rfl rfl (szl ?_) ?_
    · rw [List.length_map, List.length_map, List.length_range]; omega
    refine css_nil ⟨by omega, .dat (.int (i : Nat)), ?_⟩
    rw [List.range_succ, List.map_append, List.map_append]
    rfl
  · obtain ⟨_, a, rfl⟩ := hJ
    rw [rangeD_len]
    have e1 : (((row.map D.int).length : Int) + 1).toNat = row.length + 1 := by rw [hlen]; omega
    rw [e1]
    refine css_freeze (i := 3) rfl ?_
    refine css_ret (c_var 3) ?_
    rfl
end
/-! ### ways_digits -/
def rowAt (cs : List Int) (n : Int) : Nat → List Int
  | 0 => [1]
  | k + 1 => sumRow (rowAt cs n k) (cs.getD (k + 1) 0 / cs.getD k 0) ((digitsOf cs n).getD k 0)
def waysD (cs : List Int) (n : Int) : Int := valueAt (rowAt cs n (cs.length - 1)) (n / cs.getD (cs.length - 1) 0)
theorem rowAt_len (cs : List Int) (n : Int) : ∀ k, (rowAt cs n k).length = k + 1
  | 0 => rfl
  | k + 1 => by
    show (sumRow _ _ _).length = _
    rw [sumRow_len, rowAt_len]
/-- a ladder of coins -/
structure Lad (cs : List Int) : Prop where
  ne : 1 ≤ cs.length
  one : cs.getD 0 0 = 1
  pos : ∀ c ∈ cs, 1 ≤ c ∧ c ≤ MC
  up : ∀ k, k + 1 < cs.length → cs.getD k 0 < cs.getD (k + 1) 0 ∧ cs.getD (k + 1) 0 % cs.getD k 0 = 0
theorem lad_of {d : D} {C : Addr} (h : ladRes C d = .ok .non) : ∃ cs, d = .tup (cs.map D.int) ∧ Lad cs ∧ cs.length ≤ 60 := by
  unfold ladRes at h
  cases d with
  | tup l =>
    by_cases hl : 1 ≤ l.length ∧ l.length ≤ 60
    · simp only [if_pos hl] at h
      have hb : ladBad l = none := by
        cases q : ladBad l with
        | none => rfl
        | some j => rw [q] at h; cases h
      have hok : ∀ j, j < l.length → okAt l j = true := fun j hj => by
        unfold ladBad at hb
        rw [List.find?_eq_none] at hb
        have := hb j (List.mem_range.mpr hj)
        simpa using this
      have hint : ∀ j, j < l.length → ∃ c, l[j]? = some (.int c) ∧ 1 ≤ c ∧ c ≤ MC ∧ (j = 0 → c = 1) := fun j hj => by
        have h1 := hok j hj
        unfold okAt at h1
        cases q : l[j]? with
        | none => rw [q] at h1; cases h1
        | some x =>
          rw [q] at h1
          cases x with
          | int c =>
            refine ⟨c, rfl, ?_⟩
            simp only [Bool.and_eq_true, decide_eq_true_eq] at h1
            refine ⟨h1.1.1, h1.1.2, fun e => ?_⟩
            have := h1.2
            rw [if_pos e] at this
            exact of_decide_eq_true this
          | _ => cases h1
      have hall : ∃ cs : List Int, l = cs.map D.int := by
        refine ⟨l.map fun x => match x with | .int c => c | _ => 0, ?_⟩
        rw [List.map_map]
        apply List.ext_getElem?
        intro j
        rw [List.getElem?_map]
        cases q : l[j]? with
        | none => rfl
        | some x =>
          obtain ⟨c, h2, _⟩ := hint j (List.getElem?_eq_some_iff.mp q).1
          rw [q] at h2
          cases h2
          rfl
      obtain ⟨cs, rfl⟩ := hall
      rw [List.length_map] at hl hint hok
      have hget : ∀ j, j < cs.length → (cs.map D.int)[j]? = some (.int (cs.getD j 0)) := fun j hj => by
        rw [List.getElem?_map, List.getD_eq_getElem?_getD, List.getElem?_eq_getElem hj]
        rfl
      refine ⟨cs, rfl, ⟨hl.1, ?_, fun c hc => ?_, fun k hk => ?_⟩, hl.2⟩
      · obtain ⟨c, h2, _, _, h3⟩ := hint 0 hl.1
        rw [hget 0 hl.1] at h2
        cases h2
        exact h3 rfl
      · obtain ⟨j, hj⟩ := List.getElem?_of_mem hc
        have hlt := (List.getElem?_eq_some_iff.mp hj).1
        obtain ⟨c', h2, h3, h4, _⟩ := hint j hlt
        rw [List.getElem?_map, hj] at h2
        cases h2
        exact ⟨h3, h4⟩
      · have h1 := hok (k + 1) hk
        unfold okAt at h1
        rw [hget (k + 1) hk] at h1
        simp only [Nat.add_sub_cancel, hget k (by omega), Bool.and_eq_true, decide_eq_true_eq] at h1
        have h2 := h1.2
        rw [if_neg (by omega)] at h2
        simp only [Bool.and_eq_true, decide_eq_true_eq] at h2
        exact h2
    · simp only [if_neg hl] at h
      cases h
  | _ => cases h
theorem Lad.at {cs : List Int} (l : Lad cs) {k : Nat} (hk : k < cs.length) : cs[k]? = some (cs.getD k 0) ∧ 1 ≤ cs.getD k 0 ∧ cs.getD k 0 ≤ MC := by
  have h : cs[k]? = some (cs.getD k 0) := by
    rw [List.getD_eq_getElem?_getD, List.getElem?_eq_getElem hk]
    rfl
  exact ⟨h, l.pos _ (List.mem_of_getElem? h)⟩
end K88
end

section
set_option Elab.async false
set_option linter.all false
set_option maxRecDepth 100000
set_option maxHeartbeats 4000000
namespace K88
open PySem PySem.Spec PyProof.Rows L2 VL
theorem at_last {α : Type} {xs : List α} {x : α} (h : xs[xs.length - 1]? = some x) : atI xs (-1) = some x := by
  have hl : 0 < xs.length := by
    have := (List.getElem?_eq_some_iff.mp h).1
    omega
  have e : ixN xs.length (-1) = some (xs.length - 1) := by
    unfold ixN
    rw [if_neg (by decide), if_pos (by omega)]
    congr 1
    omega
  unfold atI
  rw [e]
  exact h
theorem lad_bad {cs : List Int} (l : Lad cs) (h : cs.length ≤ 60) (C : Addr) : ladRes C (.tup (cs.map D.int)) = .ok .non := by
  have hok : ∀ j, j < (cs.map D.int).length → okAt (cs.map D.int) j = true := fun j hj => by
    rw [List.length_map] at hj
    obtain ⟨h1, h2, h3⟩ := l.at hj
    unfold okAt
    rw [at_ints h1]
    cases j with
    | zero =>
      simp only [Bool.and_eq_true, decide_eq_true_eq, if_true]
      exact ⟨⟨h2, h3⟩, l.one⟩
    | succ k =>
      obtain ⟨h4, h5, h6⟩ := l.at (k := k) (by omega)
      obtain ⟨h7, h8⟩ := l.up k hj
      simp only [Nat.add_sub_cancel, at_ints h4, Bool.and_eq_true, decide_eq_true_eq]
      refine ⟨⟨h2, h3⟩, ?_⟩
      rw [if_neg (by omega)]
      simp only [Bool.and_eq_true, decide_eq_true_eq]
      exact ⟨h7, h8⟩
  unfold ladRes
  have h1 := l.ne
  simp only [List.length_map, h1, h, and_self, if_true, ladBad_none hok]
theorem mc_bits : MC.natAbs < 2 ^ 333 := by unfold MC; decide +kernel
theorem dv_of {c : Int} (h : 1 ≤ c ∧ c ≤ MC) : Dv c := by
  refine ⟨by omega, ?_⟩
  have h1 : c.natAbs < 2 ^ 333 := Nat.lt_of_le_of_lt (by omega) mc_bits
  have h2 := (Nat.log2_lt (n := c.natAbs) (k := 333) (by omega)).mpr h1
  omega
theorem digGo_pos : ∀ (cs : List Int) (n : Int), (∀ c ∈ cs, 1 ≤ c) → 0 ≤ n → (∀ d ∈ (digGo cs n).1, 0 ≤ d ∧ d ≤ n) ∧ 0 ≤ (digGo cs n).2 ∧ (digGo cs n).2 ≤ n
  | [], n, _, hn => ⟨fun d h => (by cases h), hn, Int.le_refl n⟩
  | c :: cs, n, hc, hn => by
    obtain ⟨h1, h2, h3⟩ := digGo_pos cs n (fun x hx => hc x (List.mem_cons_of_mem _ hx)) hn
    have c1 : 1 ≤ c := hc c List.mem_cons_self
    have e1 : 0 ≤ (digGo cs n).2 / c := Int.ediv_nonneg h2 (by omega)
    have e2 : (digGo cs n).2 / c ≤ (digGo cs n).2 := Int.ediv_le_self _ h2
    have e3 : 0 ≤ (digGo cs n).2 % c := Int.emod_nonneg _ (by omega)
    have e5 := Int.emod_add_mul_ediv (digGo cs n).2 c
    have e6 : 0 ≤ c * ((digGo cs n).2 / c) := Int.mul_nonneg (by omega) e1
    have e4 : (digGo cs n).2 % c ≤ (digGo cs n).2 := by omega
    refine ⟨fun d hd => ?_, e3, by show (digGo cs n).2 % c ≤ n; omega⟩
    rcases List.mem_cons.mp hd with rfl | hd
    · exact ⟨e1, by omega⟩
    · exact h1 d hd
def A_digits (ds : List D) (r : Res) : Prop := ∃ cs n, ds = [.tup (cs.map D.int), .int n] ∧ Lad cs ∧ cs.length ≤ 60 ∧ 0 ≤ n ∧ n ≤ MC * MC ∧ r = .ok (.tup ((digitsOf cs n).map D.int))
def intsD (l : List D) : List Int := l.map fun x => match x with
  | .int c => c
  | _ => 0
theorem intsD_map (cs : List Int) : intsD (cs.map D.int) = cs := by
  unfold intsD
  rw [List.map_map]
  exact List.map_id cs
def waysVal (d1 d2 : D) : Res := match d1, d2 with
  | .tup l, .int n => .ok (.int (waysD (intsD l) n))
  | _, _ => .ok .non
def waysRes (aC aN : Addr) (d1 d2 : D) : Res := match ladRes aC d1 with
  | .error e => .error e
  | .ok _ => if within d2 0 (10 ^ 30) then waysVal d1 d2 else .error ⟨aN, []⟩
def A_ways (aC aN : Addr) (ds : List D) (r : Res) : Prop := ∃ d1 d2, ds = [d1, d2] ∧ plT d1 = true ∧ plD d2 = true ∧ (∀ cs, d1 = .tup (cs.map D.int) → Lad cs → cs.length ≤ 60 → cs.length ≤ 10) ∧ r = waysRes aC aN d1 d2
theorem num1 : (MC * 11 + 10 ^ 30).natAbs < 2 ^ 400 := by unfold MC; decide +kernel
section
variable {P : Program} {w : World} {K : PySem.W.Frag} {mg : Str → Option Value} {base : Heap} {f aN aC : Addr} {fd : FuncData}
theorem ok_digits (F_check_ladder : FnV P w K mg base 3 "check_ladder" (detS (A_check_ladder aC))) (F_check_amount : FnV P w K mg base 3 "check_amount" (detS (A_check_amount aN))) (F_digits_of : FnV P w K mg base 1 "digits_of" (detS A_digits_of))
    (Fu : Fun K "digits" "digits" s_digits f fd) (hb : Binds K fd ["coins", "number"] []) (hm : mg "digits" = some (.ref f)) : FnV P w K mg base 4 "digits" (detS A_digits) := by
  refine fn_pure (k := 3) Fu sc_digits hb hm (fun ds r ⟨d, n, e, _⟩ => by subst e; rfl) fun cdv A' outer s H E hr B ds r ⟨cs, n, e, hl, hl60, hn0, hn1, er⟩ => ?_
  subst e er
  refine css_exprR (r := .ok .non) (q_callD F_check_ladder (hr.mono (by decide)) (d_cons (c_var 0) d_nil) ⟨_, rfl, ?_, (lad_bad hl hl60 aC).symm⟩) (fun _ _ => ?_) (fun _ h => by cases h)
  · exact List.all_eq_true.mpr fun x hx => by
      obtain ⟨c, _, rfl⟩ := List.mem_map.mp hx
      rfl
  refine css_exprR (r := .ok .non) (q_callD F_check_amount (hr.mono (by decide)) (d_cons (c_var 1) d_nil) ⟨_, rfl, rfl, (if_pos (by simp [within, hn0, hn1])).symm⟩) (fun _ _ => ?_) (fun _ h => by cases h)
  refine css_ret (c_call F_digits_of (hr.mono (by decide)) (d_cons (c_var 0) (d_cons (c_var 1) d_nil)) (fun R h => ⟨_, _, rfl, ⟨cs, n, rfl, fun c hc => dv_of (hl.pos c hc), by omega, rfl⟩, h⟩)) rfl
theorem ok_ways_digits (T : Txt K mg P w base aN aC) (TN : ∀ X : Cx, X.prog = P → X.w = w → X.K = K → X.mg = mg → X.base = base → Xc X "BadNumber" aN) (F_is_within : FnV P w K mg base 2 "is_within" (detS A_is_within)) (F_check_ladder : FnV P w K mg base 3 "check_ladder" (detS (A_check_ladder aC))) (F_digits_of : FnV P w K mg base 1 "digits_of" (detS A_digits_of)) (F_summed_row : FnV P w K mg base 2 "summed_row" (detS A_summed_row)) (F_value_at : FnV P w K mg base 1 "value_at" (detS A_value_at))
    (Fu : Fun K "ways_digits" "ways_digits" s_ways_digits f fd) (hb : Binds K fd ["coins", "number"] []) (hm : mg "ways_digits" = some (.ref f)) : FnV P w K mg base 4 "ways_digits" (detS (A_ways aC aN)) := by
  refine fn_pure (k := 3) Fu sc_ways_digits hb hm (fun ds r ⟨d, n, e, _⟩ => by subst e; rfl) fun cdv A' outer s H E hr B ds r ⟨d1, d2, e, h1, h2, h3, er⟩ => ?_
  subst e er
  have TB := TN (cx P w K mg base N_ways_digits "ways_digits" s_ways_digits f cdv A' outer s H E) rfl rfl rfl rfl rfl
  refine css_exprR (q_callD F_check_ladder (hr.mono (by decide)) (d_cons (c_var 0) d_nil) ⟨_, rfl, h1, rfl⟩) (fun u hlr => ?_) (fun er hlr => ?_)
  · have hu : u = .non := by
      unfold ladRes at hlr
      cases d1 with
      | tup l =>
        by_cases hl : 1 ≤ l.length ∧ l.length ≤ 60
        · simp only [if_pos hl] at hlr
          cases q : ladBad l with
          | none => rw [q] at hlr; cases hlr; rfl
          | some j => rw [q] at hlr; cases hlr
        · simp only [if_neg hl] at hlr
          cases hlr
      | _ => cases hlr
    subst hu
    obtain ⟨cs, rfl, lad, hl60⟩ := lad_of hlr
    have hl10 := h3 cs rfl lad hl60
    have hlen : (cs.map D.int).length = cs.length := List.length_map _
    have hw : waysRes aC aN (.tup (cs.map D.int)) d2 = if within d2 0 (10 ^ 30) then waysVal (.tup (cs.map D.int)) d2 else .error ⟨aN, []⟩ := by
      unfold waysRes
      rw [hlr]
    refine css_if (t_not (t_val (c_call F_is_within (hr.mono (by decide)) (d_cons (c_var 1) (d_cons c_int (d_cons (c_pow c_int c_int ⟨by decide, by decide, by decide⟩) d_nil))) (fun R h => ⟨_, _, rfl, ⟨_, _, _, rfl, h2, rfl⟩, h⟩)))) (fun hc => ?_) (fun hc => ?_)
    · refine css_raise0 B TB ?_
      show waysRes aC aN (.tup (cs.map D.int)) d2 = _
      rw [hw, if_neg (by simpa using hc)]
    · have hwi : within d2 0 (10 ^ 30) = true := by simpa using hc
      obtain ⟨n, rfl⟩ : ∃ n, d2 = .int n := by cases d2 <;> first | exact ⟨_, rfl⟩ | cases hwi
      have hn : 0 ≤ n ∧ n ≤ 10 ^ 30 := by
        unfold within at hwi
        simpa using hwi
      rw [if_pos hwi] at hw
      have hv : waysVal (.tup (cs.map D.int)) (.int n) = .ok (.int (waysD cs n)) := by
        show Except.ok (D.int (waysD (intsD (cs.map D.int)) n)) = _
        rw [intsD_map]
      rw [hv] at hw
      refine css_nil ?_
      refine css_asg 2 B (CN.ce (n_lst (d_cons c_int d_nil) (sz (by simp)))) ?_
      have hdg := digGo_pos cs n (fun c hc => (lad.pos c hc).1) hn.1
      have hratio : ∀ k, k + 1 < cs.length → 0 ≤ cs.getD (k + 1) 0 / cs.getD k 0 ∧ cs.getD (k + 1) 0 / cs.getD k 0 ≤ MC := fun k hk => by
        obtain ⟨_, a1, a2⟩ := lad.at hk
        obtain ⟨_, b1, b2⟩ := lad.at (k := k) (by omega)
        exact ⟨Int.ediv_nonneg (by omega) (by omega), Int.le_trans (Int.ediv_le_self _ (by omega)) a2⟩
      have hdig : ∀ k, k < cs.length → (digitsOf cs n)[k]? = some ((digitsOf cs n).getD k 0) ∧ 0 ≤ (digitsOf cs n).getD k 0 ∧ (digitsOf cs n).getD k 0 ≤ 10 ^ 30 := fun k hk => by
        have h : (digitsOf cs n)[k]? = some ((digitsOf cs n).getD k 0) := by
          rw [List.getD_eq_getElem?_getD, List.getElem?_eq_getElem (by rw [digitsOf_len]; exact hk)]
          rfl
        have := hdg.1 _ (List.mem_of_getElem? h)
        exact ⟨h, this.1, by omega⟩
      have hbits : ∀ k (t : Nat), k + 1 < cs.length → t ≤ 11 → Lt2 400 (cs.getD (k + 1) 0 / cs.getD k 0 * t + (digitsOf cs n).getD k 0) := fun k t hk ht => by
        obtain ⟨r1, r2⟩ := hratio k hk
        obtain ⟨_, d1, d2⟩ := hdig k (by omega)
        have m1 : cs.getD (k + 1) 0 / cs.getD k 0 * t ≤ MC * 11 := Int.mul_le_mul r2 (by omega) (by omega) (by unfold MC; decide)
        have m2 : 0 ≤ cs.getD (k + 1) 0 / cs.getD k 0 * t := Int.mul_nonneg r1 (by omega)
        unfold Lt2
        have := num1
        omega
      have hrow : ∀ k, k < cs.length → ∀ x ∈ rowAt cs n k, Lt2 (1 + k * 25000) x := fun k => by
        induction k with
        | zero =>
          intro _ x hx
          have : x = 1 := by simpa [rowAt] using hx
          subst this
          unfold Lt2
          decide
        | succ k ih =>
          intro hk x hx
          have h := sumRow_lt (ih (by omega)) (c := 400) (fun t ht => hbits k t hk (by rw [rowAt_len] at ht; omega)) (by decide) (by rw [rowAt_len]; omega) x hx
          refine h.mono ?_
          unfold bump
          rw [Nat.succ_mul]
          omega
      refine css_for (T := .nm 3) B (ci_range2 T.range c_int (c_lenT T.len (c_var 0)) (by rw [hlen]; omega)) (tg_nm 3 B.nd)
        (fun i ρ => i + 1 ≤ cs.length ∧ ∃ a, ρ = [.dat (.tup (cs.map D.int)), .dat (.int n), .dat (.lst ((rowAt cs n i).map D.int)), a]) ⟨lad.ne, _, rfl⟩ (fun i d ρ hd hJ => ?_) (fun ρ hJ => ?_)
      · obtain ⟨hi, rfl⟩ := rangeD_inv hd
        obtain ⟨_, a, rfl⟩ := hJ
        have hi' : i + 1 < cs.length := by rw [hlen] at hi; omega
        have a1 : atI (cs.map D.int) (1 + (i : Nat)) = some (.int (cs.getD (i + 1) 0)) := atI_i (k := i + 1) (by omega) (at_ints (lad.at hi').1)
        have a2 : atI (cs.map D.int) (1 + (i : Nat) - 1) = some (.int (cs.getD i 0)) := atI_i (k := i) (by omega) (at_ints (lad.at (k := i) (by omega)).1)
        have a3 : atI ((digitsOf cs n).map D.int) (1 + (i : Nat) - 1) = some (.int ((digitsOf cs n).getD i 0)) := atI_i (k := i) (by omega) (at_ints (hdig i (by omega)).1)
        refine ⟨_, .nm, ?_⟩
        refine css_asg 2 B (c_call F_summed_row (hr.mono (by decide)) (d_cons (c_var 2) (d_cons (c_divW (c_ixT (c_var 0) (c_var 3) a1) (c_ixT (c_var 0) (c_sub (c_var 3) c_int) a2) (dv_of (lad.at (k := i) (by omega)).2)) (d_cons (c_ixT (c_call F_digits_of (hr.mono (by decide)) (d_cons (c_var 0) (d_cons (c_var 1) d_nil)) (fun R h => ⟨_, _, rfl, ⟨cs, n, rfl, fun c hc => dv_of (lad.pos c hc), by omega, rfl⟩, h⟩)) (c_sub (c_var 3) c_int) a3) d_nil)))
          (fun R h => ⟨_, _, rfl, ⟨rowAt cs n i, _, _, 1 + i * 25000, 400, rfl, ?_, ?_, hrow i (by omega), ?_, by decide, ?_, by decide, rfl⟩, h⟩)) ?_
        · rw [rowAt_len]; omega
        · rw [rowAt_len]; omega
        · exact fun t ht => hbits i t hi' (by rw [rowAt_len] at ht; omega)
        · omega
        exact css_nil ⟨by omega, _, rfl⟩
      · obtain ⟨_, a, rfl⟩ := hJ
        have e1 : (((cs.map D.int).length : Int) - 1).toNat = cs.length - 1 := by rw [hlen]; omega
        rw [rangeD_len, e1]
        have l1 := lad.ne
        obtain ⟨b1, b2, b3⟩ := lad.at (k := cs.length - 1) (by omega)
        have a4 : atI (cs.map D.int) (-1) = some (.int (cs.getD (cs.length - 1) 0)) := at_last (by rw [hlen]; exact at_ints b1)
        refine css_ret (c_call F_value_at (hr.mono (by decide)) (d_cons (c_var 2) (d_cons (c_divW (c_var 1) (c_ixT (c_var 0) (c_neg c_int) a4) (dv_of ⟨b2, b3⟩)) d_nil)) (fun R h => ⟨_, _, rfl, ⟨rowAt cs n (cs.length - 1), _, 1 + (cs.length - 1) * 25000, 400, rfl, ?_, ?_, hrow _ (by omega), ?_, by decide, ?_, by decide, rfl⟩, h⟩)) ?_
        · rw [rowAt_len]; omega
        · rw [rowAt_len]; omega
        · have q1 : 0 ≤ n / cs.getD (cs.length - 1) 0 := Int.ediv_nonneg hn.1 (by omega)
          have q2 : n / cs.getD (cs.length - 1) 0 ≤ n := Int.ediv_le_self _ hn.1
          unfold Lt2
          have := num1
          have hm : 0 ≤ MC := by unfold MC; decide
          omega
        · omega
        · show waysRes aC aN (.tup (cs.map D.int)) (.int n) = _
          rw [hw]
          rfl
  · show waysRes aC aN d1 d2 = _
    unfold waysRes
    rw [hlr]
end
end K88
end

section
set_option Elab.async false
set_option linter.all false
set_option maxRecDepth 100000
namespace K88
open VL
/-! ### sums, differences -/
def sumTo (f : Nat → Int) : Nat → Int
  | 0 => 0
  | m + 1 => sumTo f m + f m
theorem sumTo_congr {f g : Nat → Int} : ∀ m, (∀ t, t < m → f t = g t) → sumTo f m = sumTo g m
  | 0, _ => rfl
  | m + 1, h => by
    show sumTo f m + f m = sumTo g m + g m
    rw [sumTo_congr m fun t ht => h t (by omega), h m (by omega)]
theorem sumTo_head (f : Nat → Int) : ∀ m, sumTo f (m + 1) = f 0 + sumTo (fun t => f (t + 1)) m
  | 0 => by show 0 + f 0 = f 0 + 0; omega
  | m + 1 => by
    show sumTo f (m + 1) + f (m + 1) = f 0 + (sumTo (fun t => f (t + 1)) m + f (m + 1))
    rw [sumTo_head f m]; omega
theorem sumTo_add (f g : Nat → Int) : ∀ m, sumTo (fun t => f t + g t) m = sumTo f m + sumTo g m
  | 0 => rfl
  | m + 1 => by
    show sumTo (fun t => f t + g t) m + (f m + g m) = _ + f m + (_ + g m)
    rw [sumTo_add f g m]; omega
theorem sumTo_sub (f g : Nat → Int) : ∀ m, sumTo (fun t => f t - g t) m = sumTo f m - sumTo g m
  | 0 => rfl
  | m + 1 => by
    show sumTo (fun t => f t - g t) m + (f m - g m) = _ + f m - (_ + g m)
    rw [sumTo_sub f g m]; omega
theorem sumTo_mul (a : Int) (f : Nat → Int) : ∀ m, sumTo (fun t => a * f t) m = a * sumTo f m
  | 0 => (Int.mul_zero a).symm
  | m + 1 => by
    show sumTo (fun t => a * f t) m + a * f m = a * (sumTo f m + f m)
    rw [sumTo_mul a f m, Int.mul_add]
theorem sumTo_rev (f : Nat → Int) : ∀ m, sumTo (fun t => f (m - t)) (m + 1) = sumTo f (m + 1)
  | 0 => rfl
  | m + 1 => by
    rw [sumTo_head (fun t => f (m + 1 - t))]
    have e : sumTo (fun t => f (m + 1 - (t + 1))) (m + 1) = sumTo (fun t => f (m - t)) (m + 1) := sumTo_congr _ fun t _ => by rw [Nat.add_sub_add_right]
    rw [e, sumTo_rev f m]
    show f (m + 1 - 0) + sumTo f (m + 1) = sumTo f (m + 1) + f (m + 1)
    rw [Nat.sub_zero]; omega
theorem sumTo_swap (g : Nat → Nat → Int) (a : Nat) : ∀ m, sumTo (fun t => sumTo (fun i => g i t) a) m = sumTo (fun i => sumTo (g i) m) a
  | 0 => by
    show 0 = sumTo (fun _ => 0) a
    induction a with
    | zero => rfl
    | succ a ih => show 0 = sumTo (fun _ => 0) a + 0; omega
  | m + 1 => by
    show sumTo (fun t => sumTo (fun i => g i t) a) m + sumTo (fun i => g i m) a = sumTo (fun i => sumTo (g i) m + g i m) a
    rw [sumTo_swap g a m, ← sumTo_add]
theorem sumTo_one : ∀ m, sumTo (fun _ => 1) m = m
  | 0 => rfl
  | m + 1 => by
    show sumTo (fun _ => 1) m + 1 = _
    rw [sumTo_one m]; omega
theorem sumTo_pos {f : Nat → Int} : ∀ m, (∀ t, t < m → 1 ≤ f t) → (m : Int) ≤ sumTo f m
  | 0, _ => Int.le_refl _
  | m + 1, h => by
    show ((m + 1 : Nat) : Int) ≤ sumTo f m + f m
    have h1 := sumTo_pos m fun t ht => h t (by omega)
    have h2 := h m (by omega)
    omega
def Dl (g : Nat → Int) : Nat → Int := fun x => g (x + 1) - g x
/-- of a degree below m -/
def Pm : Nat → (Nat → Int) → Prop
  | 0, g => ∀ x, g x = 0
  | m + 1, g => Pm m (Dl g)
theorem Pm.congr {g h : Nat → Int} {m : Nat} (e : ∀ x, g x = h x) (p : Pm m g) : Pm m h := by
  have : g = h := funext e
  rw [← this]; exact p
theorem Pm.add : ∀ {m : Nat} {g h : Nat → Int}, Pm m g → Pm m h → Pm m (fun x => g x + h x)
  | 0, g, h, p, q => fun x => by
    show g x + h x = 0
    rw [p x, q x]; rfl
  | m + 1, g, h, p, q => by
    show Pm m (Dl fun x => g x + h x)
    exact (Pm.add (m := m) p q).congr fun x => by
      show g (x + 1) - g x + (h (x + 1) - h x) = (g (x + 1) + h (x + 1)) - (g x + h x)
      omega
theorem Pm.zero : ∀ m, Pm m (fun _ => 0)
  | 0 => fun _ => rfl
  | m + 1 => by
    show Pm m (Dl fun _ => 0)
    exact (Pm.zero m).congr fun _ => rfl
theorem Pm.sum {m : Nat} {g : Nat → Nat → Int} (p : ∀ i, Pm m (g i)) : ∀ a, Pm m (fun x => sumTo (fun i => g i x) a)
  | 0 => Pm.zero m
  | a + 1 => (Pm.sum p a).add (p a)
theorem tele (g : Nat → Int) (b : Nat) : ∀ a, sumTo (fun i => Dl g (b + i)) a = g (b + a) - g b
  | 0 => by show 0 = g b - g b; omega
  | a + 1 => by
    show sumTo (fun i => Dl g (b + i)) a + Dl g (b + a) = _
    rw [tele g b a]
    show g (b + a) - g b + (g (b + a + 1) - g (b + a)) = g (b + (a + 1)) - g b
    rw [Nat.add_assoc]; omega
theorem Pm.aff : ∀ {m : Nat} {g : Nat → Int} (a b : Nat), Pm m g → Pm m (fun s => g (a * s + b))
  | 0, _, _, _, p => fun x => p _
  | m + 1, g, a, b, p => by
    show Pm m (Dl fun s => g (a * s + b))
    refine (Pm.sum (g := fun i s => Dl g (a * s + (b + i))) (fun i => Pm.aff a (b + i) p) a).congr fun x => ?_
    have h := tele g (a * x + b) a
    have e : sumTo (fun i => Dl g (a * x + (b + i))) a = sumTo (fun i => Dl g (a * x + b + i)) a := sumTo_congr _ fun i _ => by rw [Nat.add_assoc]
    show sumTo (fun i => Dl g (a * x + (b + i))) a = g (a * (x + 1) + b) - g (a * x + b)
    rw [e, h]
    congr 2
    rw [Nat.mul_add, Nat.mul_one]; omega
theorem Pm.pre {m : Nat} {h : Nat → Int} (p : Pm m h) : Pm (m + 1) (fun t => sumTo h (t + 1)) := by
  show Pm m (Dl fun t => sumTo h (t + 1))
  refine (Pm.aff 1 1 p).congr fun x => ?_
  show h (1 * x + 1) = sumTo h (x + 1) + h (x + 1) - sumTo h (x + 1)
  rw [Nat.one_mul]; omega
def DN (g : Nat → Int) : Nat → Nat → Int
  | 0 => g
  | j + 1 => Dl (DN g j)
theorem DN_succ (g : Nat → Int) : ∀ j, DN g (j + 1) = DN (Dl g) j
  | 0 => rfl
  | j + 1 => by
    show Dl (DN g (j + 1)) = Dl (DN (Dl g) j)
    rw [DN_succ g j]
/-! ### binomials -/
def ch : Nat → Nat → Int
  | _, 0 => 1
  | 0, _ + 1 => 0
  | x + 1, j + 1 => ch x j + ch x (j + 1)
theorem ch_zero (x : Nat) : ch x 0 = 1 := by cases x <;> rfl
theorem hockey (j : Nat) : ∀ x, sumTo (fun y => ch y j) x = ch x (j + 1)
  | 0 => rfl
  | x + 1 => by
    show sumTo (fun y => ch y j) x + ch x j = ch x j + ch x (j + 1)
    rw [hockey j x]; omega
theorem absorb : ∀ (x k : Nat), ch x (k + 1) * ((k : Int) + 1) = ch x k * ((x : Int) - k)
  | 0, 0 => rfl
  | 0, k + 1 => by
    show 0 * _ = 0 * _
    rw [Int.zero_mul, Int.zero_mul]
  | x + 1, 0 => by
    have h := absorb x 0
    rw [ch_zero] at h
    show (ch x 0 + ch x 1) * _ = 1 * _
    rw [ch_zero]
    have h2 : ch x 1 = x := by simpa using h
    have h3 : ch x (0 + 1) = x := h2
    rw [h3]; push_cast; omega
  | x + 1, k + 1 => by
    have h1 := absorb x k
    have h2 := absorb x (k + 1)
    show (ch x (k + 1) + ch x (k + 2)) * _ = (ch x k + ch x (k + 1)) * _
    have e1 : (((x + 1 : Nat) : Int) - ((k + 1 : Nat) : Int)) = (x : Int) - k := by omega
    rw [e1, Int.add_mul, Int.add_mul, ← h1]
    have h2' : ch x (k + 2) * (((k + 1 : Nat) : Int) + 1) = ch x (k + 1) * ((x : Int) - ((k + 1 : Nat) : Int)) := h2
    rw [h2', ← Int.mul_add, ← Int.mul_add]
    congr 1
    push_cast; omega
theorem pk_ch (x : Nat) : ∀ k, pk (x : Int) k = ch x k
  | 0 => by rw [ch_zero]; rfl
  | k + 1 => by
    show pk (x : Int) k * ((x : Int) - k) / ((k : Int) + 1) = ch x (k + 1)
    rw [pk_ch x k, ← absorb x k]
    exact Int.mul_ediv_cancel _ (by omega)
theorem newton : ∀ {m : Nat} {g : Nat → Int}, Pm m g → ∀ x, g x = sumTo (fun j => DN g j 0 * ch x j) m
  | 0, g, p, x => p x
  | m + 1, g, p, x => by
    have ih := newton (m := m) (g := Dl g) p
    have h := tele g 0 x
    rw [Nat.zero_add] at h
    have e : sumTo (fun i => Dl g (0 + i)) x = sumTo (fun y => sumTo (fun j => DN (Dl g) j 0 * ch y j) m) x := sumTo_congr _ fun y _ => by rw [Nat.zero_add, ih y]
    rw [e, sumTo_swap (fun j y => DN (Dl g) j 0 * ch y j)] at h
    rw [sumTo_head]
    have e2 : sumTo (fun j => DN g (j + 1) 0 * ch x (j + 1)) m = sumTo (fun i => sumTo (fun y => DN (Dl g) i 0 * ch y i) x) m := sumTo_congr _ fun j _ => by
      rw [sumTo_mul, hockey, DN_succ]
    rw [e2, ch_zero, h]
    show g x = g 0 * 1 + (g x - g 0)
    omega
/-! ### value_at -/
def rw_ (g : Nat → Int) (L : Nat) : List Int := (List.range L).map g
theorem diffL_row (g : Nat → Int) (L : Nat) : diffL (rw_ g L) = rw_ (Dl g) (L - 1) := by
  apply List.ext_getElem?
  intro i
  unfold diffL rw_
  rw [List.getElem?_zipWith, List.getElem?_drop, List.getElem?_map, List.getElem?_map, List.getElem?_map]
  by_cases h : i + 1 < L
  · rw [List.getElem?_range (by omega), List.getElem?_range (by omega), List.getElem?_range (by omega)]
    show some (g (1 + i) - g i) = some (Dl g i)
    unfold Dl
    rw [Nat.add_comm]
  · have e : (List.range (L - 1))[i]? = none := List.getElem?_eq_none (by rw [List.length_range]; omega)
    have e2 : (List.range L)[1 + i]? = none := List.getElem?_eq_none (by rw [List.length_range]; omega)
    rw [e, e2]
    cases (List.range L)[i]? <;> rfl
theorem diffN_row (g : Nat → Int) (L : Nat) : ∀ j, diffN (rw_ g L) j = rw_ (DN g j) (L - j)
  | 0 => rfl
  | j + 1 => by
    show diffL (diffN (rw_ g L) j) = _
    rw [diffN_row g L j, diffL_row]
    rfl
theorem vaTo_row (g : Nat → Int) (L x : Nat) : ∀ m, m ≤ L → vaTo (rw_ g L) (x : Int) m = sumTo (fun j => DN g j 0 * ch x j) m
  | 0, _ => rfl
  | m + 1, h => by
    show vaTo (rw_ g L) (x : Int) m + (diffN (rw_ g L) m).headD 0 * pk (x : Int) m = _ + DN g m 0 * ch x m
    rw [vaTo_row g L x m (by omega), diffN_row, pk_ch]
    congr 2
    unfold rw_
    obtain ⟨k, hk⟩ : ∃ k, L - m = k + 1 := ⟨L - m - 1, by omega⟩
    rw [hk, List.range_succ_eq_map]
    rfl
theorem valueAt_row {g : Nat → Int} {L : Nat} (p : Pm L g) (x : Nat) : valueAt (rw_ g L) (x : Int) = g x := by
  unfold valueAt
  have hl : (rw_ g L).length = L := by unfold rw_; rw [List.length_map, List.length_range]
  rw [hl, vaTo_row g L x L (Nat.le_refl _), ← newton p x]
theorem totTo_row {g : Nat → Int} {L : Nat} (p : Pm L g) (a b : Nat) : ∀ k, totTo (rw_ g L) (a : Int) (b : Int) k = sumTo (fun s => g (a * s + b)) k
  | 0 => rfl
  | k + 1 => by
    show totTo (rw_ g L) (a : Int) (b : Int) k + valueAt (rw_ g L) ((a : Int) * (k : Int) + (b : Int)) = _ + g (a * k + b)
    rw [totTo_row p a b k, ← valueAt_row p (a * k + b)]
    congr 2
theorem sumRow_row {g : Nat → Int} {L : Nat} (p : Pm L g) (a b : Nat) : sumRow (rw_ g L) (a : Int) (b : Int) = rw_ (fun t => sumTo (fun s => g (a * s + b)) (t + 1)) (L + 1) := by
  unfold sumRow
  have hl : (rw_ g L).length = L := by unfold rw_; rw [List.length_map, List.length_range]
  rw [hl]
  show _ = (List.range (L + 1)).map _
  exact List.map_congr_left fun t _ => totTo_row p a b (t + 1)
/-! ### the number of payments -/
/-- of n, with the coins c 0 = 1, .., c k -/
def W (c : Nat → Nat) : Nat → Nat → Int
  | 0, _ => 1
  | k + 1, n => sumTo (fun t => W c k (n - t * c (k + 1))) (n / c (k + 1) + 1)
theorem W_step {c : Nat → Nat} {k n : Nat} (hc : 0 < c (k + 1)) : W c (k + 1) n = W c k n + (if c (k + 1) ≤ n then W c (k + 1) (n - c (k + 1)) else 0) := by
  show sumTo (fun t => W c k (n - t * c (k + 1))) (n / c (k + 1) + 1) = _
  rw [sumTo_head, Nat.zero_mul, Nat.sub_zero]
  congr 1
  split
  · rename_i h
    have e : n / c (k + 1) = (n - c (k + 1)) / c (k + 1) + 1 := Nat.div_eq_sub_div hc h
    rw [e]
    show _ = sumTo (fun t => W c k (n - c (k + 1) - t * c (k + 1))) ((n - c (k + 1)) / c (k + 1) + 1)
    refine sumTo_congr _ fun t _ => ?_
    congr 1
    rw [Nat.succ_mul]; omega
  · rename_i h
    rw [Nat.div_eq_of_lt (by omega)]
    rfl
theorem W_pos (c : Nat → Nat) : ∀ k n, 1 ≤ W c k n
  | 0, _ => Int.le_refl _
  | k + 1, n => by
    have h := sumTo_pos (f := fun t => W c k (n - t * c (k + 1))) (n / c (k + 1) + 1) fun t _ => W_pos c k _
    refine Int.le_trans ?_ h
    exact Int.ofNat_le.mpr (Nat.le_add_left 1 _)
theorem W_above {c : Nat → Nat} {k n : Nat} (h : n < c (k + 1)) : W c (k + 1) n = W c k n := by
  show sumTo (fun t => W c k (n - t * c (k + 1))) (n / c (k + 1) + 1) = _
  rw [Nat.div_eq_of_lt h]
  show 0 + W c k (n - 0 * c (k + 1)) = _
  rw [Nat.zero_mul, Nat.sub_zero]; omega
theorem W_congr {c d : Nat → Nat} : ∀ k n, (∀ j, j ≤ k → c j = d j) → W c k n = W d k n
  | 0, _, _ => rfl
  | k + 1, n, h => by
    show sumTo (fun t => W c k (n - t * c (k + 1))) (n / c (k + 1) + 1) = sumTo (fun t => W d k (n - t * d (k + 1))) (n / d (k + 1) + 1)
    rw [h (k + 1) (Nat.le_refl _)]
    exact sumTo_congr _ fun t _ => W_congr k _ fun j hj => h j (by omega)
/-- from the second coin on each is a multiple of it: the first digit doesn't matter -/
theorem W_mod {c : Nat → Nat} {m : Nat} : ∀ k n, (∀ j, 1 ≤ j → j ≤ k → m ∣ c j ∧ 0 < c j) → W c k n = W c k (n - n % m)
  | 0, _, _ => rfl
  | k + 1, n, h => by
    obtain ⟨h1, h2⟩ := h (k + 1) (by omega) (Nat.le_refl _)
    obtain ⟨q, hq⟩ := h1
    have hm : 0 < m := Nat.pos_of_ne_zero fun z => by rw [z, Nat.zero_mul] at hq; omega
    have hq0 : 0 < q := Nat.pos_of_ne_zero fun z => by rw [z, Nat.mul_zero] at hq; omega
    have e0 : n - n % m = m * (n / m) := by have := Nat.div_add_mod n m; omega
    have ed : n / c (k + 1) = (n - n % m) / c (k + 1) := by
      rw [e0, hq, ← Nat.div_div_eq_div_mul, Nat.mul_div_mul_left _ _ hm]
    show sumTo (fun t => W c k (n - t * c (k + 1))) (n / c (k + 1) + 1) = sumTo (fun t => W c k (n - n % m - t * c (k + 1))) ((n - n % m) / c (k + 1) + 1)
    rw [← ed]
    refine sumTo_congr _ fun t ht => ?_
    rw [W_mod k (n - t * c (k + 1)) fun j h1 h2 => h j h1 (by omega)]
    congr 1
    have hle : t * c (k + 1) ≤ n := by
      have h3 : t ≤ n / c (k + 1) := by omega
      exact Nat.le_trans (Nat.mul_le_mul_right _ h3) (Nat.div_mul_le_self n _)
    have em : (n - t * c (k + 1)) % m = n % m := by
      have : n = (n - t * c (k + 1)) + m * (t * q) := by
        rw [hq] at hle ⊢
        have : t * (m * q) = m * (t * q) := by rw [← Nat.mul_assoc, ← Nat.mul_assoc, Nat.mul_comm t m]
        omega
      conv => rhs; rw [this]
      rw [Nat.add_mul_mod_self_left]
    rw [em]; omega
theorem W_one {c : Nat → Nat} (n : Nat) : W c 1 n = (n / c 1 : Nat) + 1 := by
  show sumTo (fun _ => 1) (n / c 1 + 1) = _
  rw [sumTo_one]; push_cast; rfl
/-- at the multiples of the k-th coin with a lower rest: a polynomial of the degree k -/
theorem W_poly {c : Nat → Nat} (h0 : c 0 = 1) : ∀ k, (∀ j, j < k → c j ∣ c (j + 1) ∧ 0 < c (j + 1)) → ∀ r, r < c k → Pm (k + 1) fun t => W c k (c k * t + r)
  | 0, _, _, _ => fun x => by show (1 : Int) - 1 = 0; rfl
  | k + 1, h, r, hr => by
    obtain ⟨⟨q, hq⟩, hp⟩ := h k (by omega)
    have hck : 0 < c k := Nat.pos_of_ne_zero fun z => by rw [z, Nat.zero_mul] at hq; omega
    have ih := W_poly h0 k (fun j hj => h j (by omega)) (r % c k) (Nat.mod_lt _ hck)
    refine (Pm.pre (Pm.aff q (r / c k) ih)).congr fun t => ?_
    show sumTo (fun s => W c k (c k * (q * s + r / c k) + r % c k)) (t + 1) = sumTo (fun s => W c k (c (k + 1) * t + r - s * c (k + 1))) ((c (k + 1) * t + r) / c (k + 1) + 1)
    have ed : (c (k + 1) * t + r) / c (k + 1) = t := by rw [Nat.mul_add_div hp, Nat.div_eq_of_lt hr, Nat.add_zero]
    rw [ed, ← sumTo_rev]
    refine sumTo_congr _ fun s hs => ?_
    congr 1
    have e1 : c k * (q * (t - s) + r / c k) + r % c k = c (k + 1) * (t - s) + r := by
      rw [Nat.mul_add, ← Nat.mul_assoc, ← hq, Nat.add_assoc, Nat.div_add_mod]
    rw [e1, Nat.mul_sub, Nat.mul_comm s]
    have : c (k + 1) * s ≤ c (k + 1) * t := Nat.mul_le_mul_left _ (by omega)
    omega
theorem W_sum {c : Nat → Nat} {k q r : Nat} (hq : c (k + 1) = c k * q) (hp : 0 < c (k + 1)) (hr : r < c (k + 1)) (t : Nat) :
    W c (k + 1) (c (k + 1) * t + r) = sumTo (fun s => W c k (c k * (q * s + r / c k) + r % c k)) (t + 1) := by
  show sumTo (fun s => W c k (c (k + 1) * t + r - s * c (k + 1))) ((c (k + 1) * t + r) / c (k + 1) + 1) = _
  have ed : (c (k + 1) * t + r) / c (k + 1) = t := by rw [Nat.mul_add_div hp, Nat.div_eq_of_lt hr, Nat.add_zero]
  rw [ed, ← sumTo_rev (fun s => W c k (c k * (q * s + r / c k) + r % c k))]
  refine sumTo_congr _ fun s hs => ?_
  congr 1
  have e1 : c k * (q * (t - s) + r / c k) + r % c k = c (k + 1) * (t - s) + r := by
    rw [Nat.mul_add, ← Nat.mul_assoc, ← hq, Nat.add_assoc, Nat.div_add_mod]
  rw [e1, Nat.mul_sub, Nat.mul_comm s]
  have : c (k + 1) * s ≤ c (k + 1) * t := Nat.mul_le_mul_left _ (by omega)
  omega
end K88
end

section
set_option Elab.async false
set_option linter.all false
set_option maxRecDepth 100000
namespace K88
open VL
def cN (cs : List Int) (k : Nat) : Nat := (cs.getD k 0).toNat
theorem cN_at {cs : List Int} (l : Lad cs) {k : Nat} (h : k < cs.length) : cs.getD k 0 = (cN cs k : Int) ∧ 0 < cN cs k := by
  obtain ⟨_, h1, _⟩ := l.at h
  unfold cN
  omega
theorem cN_dvd {cs : List Int} (l : Lad cs) {k : Nat} (h : k + 1 < cs.length) : cN cs k ∣ cN cs (k + 1) := by
  have h1 := (l.up k h).2
  rw [(cN_at l h).1, (cN_at l (k := k) (by omega)).1] at h1
  have h2 : ((cN cs k : Int)) ∣ (cN cs (k + 1) : Int) := Int.dvd_of_emod_eq_zero h1
  exact Int.ofNat_dvd.mp h2
theorem cN_one {cs : List Int} (l : Lad cs) : cN cs 0 = 1 := by
  unfold cN
  rw [l.one]; rfl
theorem digGo_drop : ∀ (j : Nat) (cs : List Int) (n : Int), (digGo cs n).1.getD j 0 = (digGo (cs.drop j) n).1.getD 0 0
  | 0, cs, n => by rw [List.drop_zero]
  | j + 1, [], n => rfl
  | j + 1, c :: cs, n => by
    show ((digGo cs n).2 / c :: (digGo cs n).1).getD (j + 1) 0 = _
    rw [List.getD_cons_succ, digGo_drop j cs n]
    rfl
theorem rest_at {cs : List Int} (l : Lad cs) (n : Nat) : ∀ m j, j + m + 1 = cs.length → (digGo (cs.drop j) (n : Int)).2 = ((n % cN cs j : Nat) : Int)
  | 0, j, h => by
    have hj : j < cs.length := by omega
    rw [List.drop_eq_getElem_cons hj]
    have e : cs.drop (j + 1) = [] := List.drop_of_length_le (by omega)
    rw [e]
    show (n : Int) % cs[j] = _
    have e2 : cs[j] = (cN cs j : Int) := by
      rw [← (cN_at l hj).1, List.getD_eq_getElem?_getD, List.getElem?_eq_getElem hj]; rfl
    rw [e2]; exact (Int.natCast_emod _ _).symm
  | m + 1, j, h => by
    have hj : j < cs.length := by omega
    rw [List.drop_eq_getElem_cons hj]
    show (digGo (cs.drop (j + 1)) (n : Int)).2 % cs[j] = _
    rw [rest_at l n m (j + 1) (by omega)]
    have e2 : cs[j] = (cN cs j : Int) := by
      rw [← (cN_at l hj).1, List.getD_eq_getElem?_getD, List.getElem?_eq_getElem hj]; rfl
    rw [e2, ← Int.natCast_emod, Nat.mod_mod_of_dvd _ (cN_dvd l (by omega))]
theorem dig_at {cs : List Int} (l : Lad cs) (n : Nat) {j : Nat} (h : j + 1 < cs.length) : (digitsOf cs (n : Int)).getD j 0 = ((n % cN cs (j + 1) / cN cs j : Nat) : Int) := by
  unfold digitsOf
  rw [digGo_drop]
  have hj : j < cs.length := by omega
  rw [List.drop_eq_getElem_cons hj]
  show (digGo (cs.drop (j + 1)) (n : Int)).2 / cs[j] = _
  rw [rest_at l n (cs.length - (j + 2)) (j + 1) (by omega)]
  have e2 : cs[j] = (cN cs j : Int) := by
    rw [← (cN_at l hj).1, List.getD_eq_getElem?_getD, List.getElem?_eq_getElem hj]; rfl
  rw [e2]; exact (Int.natCast_ediv _ _).symm
theorem row_W {cs : List Int} (l : Lad cs) (n : Nat) : ∀ k, k < cs.length → rowAt cs (n : Int) k = rw_ (fun t => W (cN cs) k (cN cs k * t + n % cN cs k)) (k + 1)
  | 0, _ => rfl
  | k + 1, h => by
    show sumRow (rowAt cs n k) (cs.getD (k + 1) 0 / cs.getD k 0) ((digitsOf cs n).getD k 0) = _
    obtain ⟨q, hq⟩ := cN_dvd l h
    have h0 := (cN_at l (k := k) (by omega)).2
    have h1 := (cN_at l h).2
    rw [row_W l n k (by omega), dig_at l n h, (cN_at l h).1, (cN_at l (k := k) (by omega)).1]
    have er : (cN cs (k + 1) : Int) / (cN cs k : Int) = (q : Int) := by
      rw [hq, Int.natCast_mul, Int.mul_ediv_cancel_left _ (by omega)]
    rw [er, sumRow_row (W_poly (cN_one l) k (fun j hj => ⟨cN_dvd l (by omega), (cN_at l (by omega)).2⟩) _ (Nat.mod_lt _ h0))]
    unfold rw_
    refine List.map_congr_left fun t _ => ?_
    show sumTo (fun s => W (cN cs) k (cN cs k * (q * s + n % cN cs (k + 1) / cN cs k) + n % cN cs k)) (t + 1) = _
    rw [W_sum hq h1 (Nat.mod_lt _ h1), Nat.mod_mod_of_dvd _ (cN_dvd l h)]
/-- ways_digits is right -/
theorem ways_W {cs : List Int} (l : Lad cs) (n : Nat) : waysD cs (n : Int) = W (cN cs) (cs.length - 1) n := by
  have hl := l.ne
  unfold waysD
  have hk : cs.length - 1 < cs.length := by omega
  have h0 := (cN_at l hk).2
  rw [row_W l n _ hk, (cN_at l hk).1, ← Int.natCast_ediv, valueAt_row (W_poly (cN_one l) _ (fun j hj => ⟨cN_dvd l (by omega), (cN_at l (by omega)).2⟩) _ (Nat.mod_lt _ h0)), Nat.div_add_mod]
end K88
end

section
set_option Elab.async false
set_option linter.all false
set_option maxRecDepth 100000
namespace K88
open VL
theorem Lad.take {cs : List Int} (l : Lad cs) {k : Nat} (h1 : 1 ≤ k) (h2 : k ≤ cs.length) : Lad (cs.take k) := by
  have g : ∀ j, j < k → (cs.take k).getD j 0 = cs.getD j 0 := fun j hj => by
    rw [List.getD_eq_getElem?_getD, List.getD_eq_getElem?_getD, List.getElem?_take_of_lt hj]
  have hl : (cs.take k).length = k := by rw [List.length_take]; omega
  exact ⟨by omega, by rw [g 0 (by omega)]; exact l.one, fun c hc => l.pos c (List.mem_of_mem_take hc), fun j hj => by rw [g j (by omega), g (j + 1) (by omega)]; exact l.up j (by omega)⟩
theorem cN_take (cs : List Int) {k j : Nat} (h : j < k) : cN (cs.take k) j = cN cs j := by
  unfold cN
  rw [List.getD_eq_getElem?_getD, List.getD_eq_getElem?_getD, List.getElem?_take_of_lt h]
theorem nat_of {n : Int} (h : 0 ≤ n) : ∃ m : Nat, n = m := ⟨n.toNat, by omega⟩
theorem ways_pos {cs : List Int} (l : Lad cs) {n : Int} (h : 0 ≤ n) : 1 ≤ waysD cs n := by
  obtain ⟨m, rfl⟩ := nat_of h
  rw [ways_W l]; exact W_pos _ _ _
theorem ways_last {cs : List Int} (l : Lad cs) (h2 : 2 ≤ cs.length) {n : Int} (h : 0 ≤ n) : waysD cs n = waysD (cs.take (cs.length - 1)) n + (if cs.getD (cs.length - 1) 0 ≤ n then waysD cs (n - cs.getD (cs.length - 1) 0) else 0) := by
  obtain ⟨m, rfl⟩ := nat_of h
  obtain ⟨k, hk⟩ : ∃ k, cs.length = k + 2 := ⟨cs.length - 2, by omega⟩
  have lt := l.take (k := cs.length - 1) (by omega) (by omega)
  have e1 : cs.length - 1 = k + 1 := by omega
  obtain ⟨c1, c2⟩ := cN_at l (k := k + 1) (by omega)
  have e3 : (cs.take (k + 1)).length - 1 = k := by rw [List.length_take]; omega
  rw [ways_W l, ways_W lt, e1, e3, c1, W_step c2, W_congr (c := cN (cs.take (k + 1))) (d := cN cs) k m fun j hj => cN_take cs (by omega)]
  by_cases hle : cN cs (k + 1) ≤ m
  · rw [if_pos hle, if_pos (by omega)]
    have e4 : ((m : Int) - (cN cs (k + 1) : Int)) = ((m - cN cs (k + 1) : Nat) : Int) := by omega
    rw [e4, ways_W l, e1]
  · rw [if_neg hle, if_neg (by omega)]
theorem ways_first {cs : List Int} (l : Lad cs) (h2 : 2 ≤ cs.length) {n : Int} (h : 0 ≤ n) : waysD cs n = waysD cs (n - (digitsOf cs n).getD 0 0) ∧ 0 ≤ n - (digitsOf cs n).getD 0 0 ∧ n - (digitsOf cs n).getD 0 0 ≤ n := by
  obtain ⟨m, rfl⟩ := nat_of h
  have hd := dig_at l m (j := 0) (by omega)
  rw [cN_one l, Nat.div_one] at hd
  have hd' : (digitsOf cs (m : Int)).getD 0 0 = ((m % cN cs 1 : Nat) : Int) := hd
  have hle : m % cN cs 1 ≤ m := Nat.mod_le _ _
  have dv : ∀ j, 1 ≤ j → j < cs.length → cN cs 1 ∣ cN cs j := fun j => by
    induction j with
    | zero => intro h1; omega
    | succ j ih =>
      intro h1 h3
      by_cases hj : j = 0
      · subst hj; exact Nat.dvd_refl _
      · exact Nat.dvd_trans (ih (by omega) (by omega)) (cN_dvd l h3)
  rw [hd']
  have e : ((m : Int) - ((m % cN cs 1 : Nat) : Int)) = ((m - m % cN cs 1 : Nat) : Int) := by omega
  refine ⟨?_, by omega, by omega⟩
  rw [e, ways_W l, ways_W l]
  exact W_mod _ _ fun j h1 h3 => ⟨dv j h1 (by omega), (cN_at l (by omega)).2⟩
theorem ways_more {cs : List Int} {c n : Int} (l : Lad cs) (l2 : Lad (cs ++ [c])) (h : 0 ≤ n) (hc : n < c) : waysD (cs ++ [c]) n = waysD cs n := by
  obtain ⟨m, rfl⟩ := nat_of h
  have hl := l.ne
  obtain ⟨k, hk⟩ : ∃ k, cs.length = k + 1 := ⟨cs.length - 1, by omega⟩
  have e1 : (cs ++ [c]).length - 1 = k + 1 := by rw [List.length_append]; simp; omega
  have e2 : cs.length - 1 = k := by omega
  have gc : cN (cs ++ [c]) (k + 1) = c.toNat := by
    unfold cN
    rw [List.getD_eq_getElem?_getD, List.getElem?_append_right (by omega), hk, Nat.sub_self]
    rfl
  rw [ways_W l2, ways_W l, e1, e2, W_above (by rw [gc]; omega)]
  refine W_congr k m fun j hj => ?_
  unfold cN
  rw [List.getD_eq_getElem?_getD, List.getD_eq_getElem?_getD, List.getElem?_append_left (by omega)]
/-! ### the closed form of three -/
def threeD (cs : List Int) (n : Int) : Int :=
  if cs.length = 1 then 1 else if cs.length = 2 then n / cs.getD 1 0 + 1
  else (n / cs.getD 2 0 + 1) * (n / cs.getD 1 0 + 1) - cs.getD 2 0 / cs.getD 1 0 * (n / cs.getD 2 0 * (n / cs.getD 2 0 + 1) / 2)
theorem sum_id : ∀ m : Nat, sumTo (fun t => (t : Int)) (m + 1) * 2 = m * (m + 1)
  | 0 => rfl
  | m + 1 => by
    show (sumTo (fun t => (t : Int)) (m + 1) + ((m + 1 : Nat) : Int)) * 2 = _
    rw [Int.add_mul, sum_id m]
    push_cast
    rw [Int.mul_add, Int.mul_add, Int.add_mul, Int.add_mul, Int.add_mul, Int.mul_add]
    omega
theorem W_two {c : Nat → Nat} {q : Nat} (hq : c 2 = c 1 * q) (h1 : 0 < c 1) (n : Nat) : W c 2 n = ((n / c 2 : Nat) + 1) * ((n / c 1 : Nat) + 1) - q * sumTo (fun t => (t : Int)) (n / c 2 + 1) := by
  show sumTo (fun t => W c 1 (n - t * c 2)) (n / c 2 + 1) = _
  have e : sumTo (fun t => W c 1 (n - t * c 2)) (n / c 2 + 1) = sumTo (fun t => (((n / c 1 : Nat) : Int) + 1) * 1 - (q : Int) * (t : Int)) (n / c 2 + 1) := sumTo_congr _ fun t ht => by
    rw [W_one]
    have hle : t * c 2 ≤ n := Nat.le_trans (Nat.mul_le_mul_right _ (by omega : t ≤ n / c 2)) (Nat.div_mul_le_self n _)
    have e2 : t * c 2 = c 1 * (t * q) := by rw [hq, ← Nat.mul_assoc, ← Nat.mul_assoc, Nat.mul_comm t]
    have e3 : (n - t * c 2) / c 1 = n / c 1 - t * q := by rw [e2, Nat.sub_mul_div]
    have e4 : t * q ≤ n / c 1 := (Nat.le_div_iff_mul_le h1).mpr (by rw [Nat.mul_comm, ← e2]; exact hle)
    have e5 : (q : Int) * (t : Int) = ((t * q : Nat) : Int) := by rw [Int.natCast_mul, Int.mul_comm]
    rw [e3, e5]; omega
  rw [e, sumTo_sub (fun _ => (((n / c 1 : Nat) : Int) + 1) * 1), sumTo_mul, sumTo_mul, sumTo_one]
  congr 1
  rw [Int.mul_comm]; push_cast; rfl
theorem ways_three {cs : List Int} (l : Lad cs) (h3 : cs.length ≤ 3) {n : Int} (h : 0 ≤ n) : waysD cs n = threeD cs n := by
  obtain ⟨m, rfl⟩ := nat_of h
  have hl := l.ne
  rw [ways_W l]
  unfold threeD
  by_cases e1 : cs.length = 1
  · rw [if_pos e1, e1]; rfl
  rw [if_neg e1]
  obtain ⟨g1, p1⟩ := cN_at l (k := 1) (by omega)
  by_cases e2 : cs.length = 2
  · rw [if_pos e2, e2, g1]
    show W (cN cs) 1 m = _
    rw [W_one, Int.natCast_ediv]
  rw [if_neg e2]
  have e3 : cs.length = 3 := by omega
  obtain ⟨g2, p2⟩ := cN_at l (k := 2) (by omega)
  obtain ⟨q, hq⟩ := cN_dvd l (k := 1) (by omega)
  rw [e3, g1, g2]
  show W (cN cs) 2 m = _
  have er : (cN cs 2 : Int) / (cN cs 1 : Int) = (q : Int) := by
    have hq' : cN cs 2 = cN cs 1 * q := hq
    rw [hq', Int.natCast_mul, Int.mul_ediv_cancel_left _ (by omega)]
  rw [W_two hq p1, er, Int.natCast_ediv, Int.natCast_ediv]
  congr 2
  have hs := sum_id (m / cN cs 2)
  rw [Int.natCast_ediv] at hs
  rw [← hs, Int.mul_ediv_cancel _ (by decide)]
/-! ### the table -/
/-- how the table stands when a coin was gone through -/
def recF (g : Nat → Int) (c : Nat) (n : Nat) : Int := sumTo (fun t => g (n - t * c)) (n / c + 1)
theorem recF_step {g : Nat → Int} {c n : Nat} (hc : 0 < c) : recF g c n = g n + (if c ≤ n then recF g c (n - c) else 0) := by
  unfold recF
  rw [sumTo_head, Nat.zero_mul, Nat.sub_zero]
  congr 1
  split
  · rename_i h
    have e : n / c = (n - c) / c + 1 := Nat.div_eq_sub_div hc h
    rw [e]
    refine sumTo_congr _ fun t _ => ?_
    congr 1
    rw [Nat.succ_mul]; omega
  · rename_i h
    rw [Nat.div_eq_of_lt (by omega)]
    rfl
/-- the table behind k coins -/
def tabAt (cs : List Int) : Nat → Nat → Int
  | 0 => fun n => if n = 0 then 1 else 0
  | k + 1 => recF (tabAt cs k) (cN cs k)
theorem tab_W {cs : List Int} (l : Lad cs) : ∀ k n, k < cs.length → tabAt cs (k + 1) n = W (cN cs) k n
  | 0, n, _ => by
    show recF (tabAt cs 0) (cN cs 0) n = 1
    rw [cN_one l]
    unfold recF
    rw [Nat.div_one]
    show sumTo (fun t => if n - t * 1 = 0 then (1 : Int) else 0) n + (if n - n * 1 = 0 then 1 else 0) = 1
    rw [if_pos (by omega)]
    have e : sumTo (fun t => if n - t * 1 = 0 then (1 : Int) else 0) n = sumTo (fun _ => 0) n := sumTo_congr _ fun t ht => if_neg (by omega)
    have z : ∀ m, sumTo (fun _ => 0) m = 0 := fun m => by
      induction m with
      | zero => rfl
      | succ m ih => show sumTo (fun _ => 0) m + 0 = 0; rw [ih]; rfl
    rw [e, z]; rfl
  | k + 1, n, h => by
    show recF (tabAt cs (k + 1)) (cN cs (k + 1)) n = _
    unfold recF
    show _ = sumTo (fun t => W (cN cs) k (n - t * cN cs (k + 1))) (n / cN cs (k + 1) + 1)
    exact sumTo_congr _ fun t _ => tab_W l k _ (by omega)
theorem tab_ways {cs : List Int} (l : Lad cs) (n : Nat) : tabAt cs cs.length n = waysD cs (n : Int) := by
  have hl := l.ne
  rw [ways_W l]
  obtain ⟨k, hk⟩ : ∃ k, cs.length = k + 1 := ⟨cs.length - 1, by omega⟩
  rw [hk, tab_W l k n (by omega)]
  rfl
end K88
end

section
set_option Elab.async false
set_option linter.all false
set_option maxRecDepth 100000
set_option maxHeartbeats 4000000
namespace K88
open PySem PySem.Spec PyProof.Rows L2 VL VLH LamX
open L2H (HotC)
abbrev s_law_word : Stmt := topS 28
abbrev N_law_word : List Str := ["call", "error", "some", "said", "word", "is_one"]
theorem sc_law_word : FnScope N_law_word ["call"] (defScope s_law_word) := ⟨rfl, rfl, rfl, by decide +kernel, rfl, by decide +kernel, by decide +kernel⟩
/-- what is asked of the classes -/
structure Wt (K : PySem.W.Frag) (mg : Str → Option Value) (aB aC aN : Addr) : Prop where
  isinstance : mg "isinstance" = none
  len : mg "len" = none
  ce : mg "CoinError" = some (.ref aB)
  gC : mg "BadCoins" = some (.ref aC)
  gN : mg "BadNumber" = some (.ref aN)
  ve : mg "ValueError" = none
  xC : PySem.W.exmOne K (.ref aC) (.ref aB) = some true
  xN : PySem.W.exmOne K (.ref aN) (.ref aB) = some true
  kCC : PySem.W.kitOne K (.ref aC) (.ref aC) = some true
  kCN : PySem.W.kitOne K (.ref aC) (.ref aN) = some false
  kNC : PySem.W.kitOne K (.ref aN) (.ref aC) = some false
  kNN : PySem.W.kitOne K (.ref aN) (.ref aN) = some true
  vC : PySem.W.kitOne K (.ref aC) (.type "ValueError") = some true
  vN : PySem.W.kitOne K (.ref aN) (.type "ValueError") = some true
  eC : ExcD K aC
  eN : ExcD K aN
  fC : XfC K aC
  nC : PySem.W.findIn K (.ref aC) "at" = some none
def fstD : D → D
  | .tup [x, _] => x
  | _ => .non
def sndB : D → Bool
  | .tup [_, .bl b] => b
  | _ => false
/-- the words of a class -/
def saidD (k1 k2 : Bool) : List D := (([.tup [.str "coins", .bl k1], .tup [.str "number", .bl k2]] : List D).filter sndB).map fstD
def suite88 : List Stmt := match defBody s_law_word with
  | .Try _ [.ExceptHandler _ _ b _] _ _ _ :: _ => b
  | _ => []
section
variable {K : PySem.W.Frag} {mg : Str → Option Value} {aB aC aN : Addr}
/-- the context of _law_word -/
abbrev cxw (P : Program) (w : World) (K : PySem.W.Frag) (mg : Str → Option Value) (base : Heap) (g : Addr) (cdg : Value) (A : Around) (outer : List Env) (s : Shared) (H : Hp) : Cx := (cxOf C8.CX0 P w K mg base N_law_word "_law_word" (defScope s_law_word) g cdg A outer s H C8.E0).nox
theorem suite_ok {P : Program} {w : World} {base : Heap} {g : Addr} {cdg : Value} {A : Around} {outer : List Env} {s : Shared} {H : Hp} (T : Wt K mg aB aC aN) {aE D : Addr} {oe : Obj} {dd : Option Addr} {fs : List (Str × VL.D)} {pn : List (Addr × Obj)} {k1 k2 : Bool} {dW : VL.D}
    (hz : L2N.Zn (.ref D) dd oe) (hf : ∃ vs, oe.data = .fields vs) (hE : ExcD K D) (h1 : PySem.W.kitOne K (.ref D) (.ref aC) = some k1) (h2 : PySem.W.kitOne K (.ref D) (.ref aN) = some k2) (hv : PySem.W.kitOne K (.ref D) (.type "ValueError") = some true)
    (hd : (k1 = true ∧ k2 = false ∧ D = aC ∧ ∃ d dx, dd = some dx ∧ fs = [(("at" : Str), d)] ∧ dW = .tup [.str "coins", d]) ∨ (k1 = false ∧ k2 = true ∧ dW = .str "number")) :
    CSs ((cxw P w K mg base g cdg A outer s H).suite aE ((aE, oe) :: pn)) [.un, .dat (exD aE dd fs), .un, .un, .un, .un] suite88 { nx := fun _ => False, rt := fun d _ => d = dW } := by
  have nd : N_law_word.Nodup := sc_law_word.nd
  have B : Bdn ((cxw P w K mg base g cdg A outer s H).suite aE ((aE, oe) :: pn)) := ⟨nd⟩
  have hot : HotC ((cxw P w K mg base g cdg A outer s H).suite aE ((aE, oe) :: pn)) := let ⟨vs, hvs⟩ := hf; ⟨(aE, oe), ⟨rfl, vs, hvs, hz.2.2 vs hvs⟩, List.mem_cons_self⟩
  refine css_asgN 2 B (n_lst d_nil (sz (by simp))) fun q => ?_
  refine css_append 2 (c_tup (d_cons c_str (d_cons (c_isD List.mem_cons_self hE hz.zc hf rel_adr T.isinstance (c_var 1) (c_gref T.gC) h1) d_nil)) (sz (by simp))) rfl rfl (szl (by simp)) ?_
  refine css_append 2 (c_tup (d_cons c_str (d_cons (c_isD List.mem_cons_self hE hz.zc hf rel_adr T.isinstance (c_var 1) (c_gref T.gN) h2) d_nil)) (sz (by simp))) rfl rfl (szl (by simp)) ?_
  refine css_freeze (i := 2) rfl ?_
  refine css_lcF 3 (ds := saidD k1 k2) (l_lcH (T := .tp [.nm 4, .nm 5]) fstD sndB (c_var 2) [("word", 4), ("is_one", 5)] hot nd ?ok ?hg ?hT ?hn ?hs (szl (by simp))) ?_
  case ok => exact blkOk_by (N := N_law_word) (sc := defScope s_law_word) (by decide +kernel)
  case hg => exact fun pins s H' C cl fp => tg_tpH (let ⟨vs, hvs⟩ := hf; ⟨(aE, oe), ⟨rfl, vs, hvs, hz.2.2 vs hvs⟩, List.mem_append_left _ List.mem_cons_self⟩) (tgs_cons (tg_nm 4 nd) (tgs_cons (tg_nm 5 nd) tgs_nil))
  case hT => decide
  case hn => exact fun k p ds hk h => by rcases k with _ | _ | _ | _ | _ | _ | k <;> cases h
  case hs =>
    intro i d hd
    have : ∃ (x : VL.D) (b : Bool), d = .tup [x, .bl b] := by
      rcases i with _ | _ | i
      · cases hd; exact ⟨_, _, rfl⟩
      · cases hd; exact ⟨_, _, rfl⟩
      · cases hd
    obtain ⟨x, b, rfl⟩ := this
    refine ⟨_, .tp (.cons .nm (.cons .nm .nil)), ?_, fun pins s H' C cl fp => ?_, fun _ pins s H' C cl fp => ?_⟩
    · exact fun k p es h => by rcases k with _ | _ | _ | _ | _ | _ | k <;> cases h
    · refine (t_w (w_and (t_val (c_var 5)) (fun _ => w_and1 (t_val (c_isD (List.mem_append_left _ List.mem_cons_self) hE hz.zc hf rel_ty T.isinstance (c_var 1) (c_bty "ValueError" T.ve) hv))))).eq ?_
      exact Bool.and_true _
    · exact c_var 4
  rcases hd with ⟨rfl, rfl, rfl, d, dx, rfl, rfl, rfl⟩ | ⟨rfl, rfl, rfl⟩
  · refine css_if (t_neI (c_lenL T.len (c_var 3)) c_int) (fun hc => ?_) (fun hc => ?_)
    · exact absurd hc (by decide)
    · refine css_nil ?_
      exact css_ret (c_if (t_eqS (c_ixL (c_var 3) c_int rfl) c_str) (fun _ => c_tup (d_cons c_str (d_cons (c_xf T.fC T.nC hz.zc hf (c_var 1) rfl) d_nil)) (sz (by simp))) (fun hc => absurd hc (by decide))) rfl
  · refine css_if (t_neI (c_lenL T.len (c_var 3)) c_int) (fun hc => ?_) (fun hc => ?_)
    · exact absurd hc (by decide)
    · refine css_nil ?_
      exact css_ret (c_if (t_eqS (c_ixL (c_var 3) c_int rfl) c_str) (fun hc => absurd hc (by decide)) (fun _ => c_ixL (c_var 3) c_int rfl)) rfl
end
end K88
end

section
set_option Elab.async false
set_option linter.all false
set_option maxRecDepth 100000
set_option maxHeartbeats 4000000
namespace K88
open PySem PySem.Spec PyProof.Rows L2 VL
abbrev s_law_hand : Stmt := topS 18
theorem sc_law_hand : FnScope ["script", "cells", "cell"] ["script"] (defScope s_law_hand) := ⟨rfl, rfl, rfl, by decide +kernel, rfl, by decide +kernel, by decide +kernel⟩
abbrev s_law_draw : Stmt := topS 19
theorem sc_law_draw : FnScope ["hand", "many", "cell", "digit", "number"] ["hand", "many"] (defScope s_law_draw) := ⟨rfl, rfl, rfl, by decide +kernel, rfl, by decide +kernel, by decide +kernel⟩
abbrev s_law_any : Stmt := topS 20
theorem sc_law_any : FnScope ["hand", "some"] ["hand", "some"] (defScope s_law_any) := ⟨rfl, rfl, rfl, by decide +kernel, rfl, by decide +kernel, by decide +kernel⟩
/-- the hand of a script -/
structure Hd where
  cells : List Int
  i : Nat
  left : Int
  seed : Int
  cnt : Int
def Hd.ds (h : Hd) : List D := [.lst (h.cells.map D.int), .int (h.i : Nat), .int h.left, .int h.seed, .int h.cnt]
def Hd.new (ns : List Int) : Hd := let c := (ns.take 63).map fun n => if n < 0 then -n else n; ⟨c, 0, 0, 53 + 7 * (c.length : Nat), 0⟩
def Hd.turn (h : Hd) : Hd := if h.left = 0 ∧ h.i < h.cells.length then ⟨h.cells, h.i + 1, if 10 ^ 18 ≤ h.cells.getD h.i 0 then h.cells.getD h.i 0 else h.left, (h.seed * 69621 + h.cells.getD h.i 0 * 40692 + 23) % 2147483629, h.cnt⟩ else h
def mixed (seed cnt : Int) : Int :=
  let n1 := ((seed + 7919 * cnt) * 48271) % 2147483647
  let n2 := (n1 * (n1 / 1009 + 69621)) % 2147483647
  let n3 := (n2 * (n2 / 2003 + 40014)) % 2147483563
  n3 / 16
def Hd.draw (h : Hd) (many : Int) : Int := if 0 < h.turn.left then h.turn.left % many else mixed h.turn.seed (h.turn.cnt + 1) % many
def Hd.next (h : Hd) (many : Int) : Hd := if 0 < h.turn.left then { h.turn with left := h.turn.left / many } else { h.turn with cnt := h.turn.cnt + 1 }
theorem Hd.draw_lt {h : Hd} {many : Int} (hm : 0 < many) : 0 ≤ h.draw many ∧ h.draw many < many := by
  unfold Hd.draw
  split <;> exact ⟨Int.emod_nonneg _ (by omega), Int.emod_lt_of_pos _ hm⟩
def A_law_hand (ds es : List D) : Prop := ∃ ns : List Int, ds = [.frl (ns.map D.int)] ∧ ns.length ≤ 63 ∧ es = (Hd.new ns).ds
def A_law_draw (cs ds : List D) (R : Res → List D → Prop) : Prop := ∃ (h : Hd) (many : Int), cs = h.ds ∧ ds = [.int many] ∧ 0 < many ∧ many < 2 ^ 29 ∧ R (.ok (.int (h.draw many))) (h.next many).ds
def A_law_any (cs ds : List D) (R : Res → List D → Prop) : Prop := ∃ (h : Hd) (l : List D), cs = h.ds ∧ ds = [.lst l] ∧ l ≠ [] ∧ l.length ≤ 1000 ∧ R (.ok (l.getD (h.draw (l.length : Nat)).toNat .non)) (h.next (l.length : Nat)).ds
section
variable {P : Program} {w : World} {K : PySem.W.Frag} {mg : Str → Option Value} {base : Heap} {f : Addr} {fd : FuncData}
theorem ok_law_hand (T : Blt mg) (Fu : Fun K "_law_hand" "_law_hand" s_law_hand f fd) (hb : Binds K fd ["script"] []) (hm : mg "_law_hand" = some (.ref f)) : FnN P w K mg base 2 "_law_hand" A_law_hand := by
  refine fn_new2 (k := 1) Fu sc_law_hand hb hm (fun ds r ⟨d, e, _⟩ => by subst e; rfl) rfl fun cdv A' outer s H E hr B ds es ⟨ns, e, hl, er⟩ => ?_
  subst e er
  refine ps_lcF2 1 (l_lc0 (T := .nm 2) (fun x => match x with | .int n => .int (if n < 0 then -n else n) | x => x) (ci_list (CN.ce (n_slF (c_var 0) o_none (o_some c_int)))) [("cell", 2)] B (blkOk_by (N := ["script", "cells", "cell"]) (sc := defScope s_law_hand) (by decide +kernel))
      (fun _ _ _ _ _ => tg_nm 2 B.nd) (by decide) (fun k p ds hk h => by rcases k with _ | _ | _ | k <;> cases h) (fun i d hd => ?_) ?_)
    ((n_lst (d_cons (c_var 1) (d_cons c_int (d_cons c_int (d_cons (c_add c_int (c_mul c_int (c_lenL T.len (c_var 1)) ?_)) (d_cons c_int d_nil))))) (sz (by simp))).eq ?_)
  · rw [show ((63 : Int)) = ((63 : Nat) : Int) from rfl, cutD_take, ← List.map_take] at hd
    obtain ⟨n, _, rfl⟩ := List.mem_map.mp (List.mem_of_getElem? hd)
    refine ⟨_, .nm, (fun k p es h => by rcases k with _ | _ | _ | k <;> cases h), fun _ _ _ _ _ => c_abs T.abs (c_intI T.int (c_var 2))⟩
  · rw [show ((63 : Int)) = ((63 : Nat) : Int) from rfl, cutD_take, List.length_take, List.length_map]
    exact szl (by omega)
  · exact .inl (by decide)
  · rw [show ((63 : Int)) = ((63 : Nat) : Int) from rfl, cutD_take, ← List.map_take, List.map_map]
    unfold Hd.new Hd.ds
    simp only [List.map_map, List.length_map]
    rfl
theorem h0 (h : Hd) : h.ds.length = 5 := rfl
theorem ok_law_draw (T : Blt mg) (Fu : Fun K "_law_draw" "_law_draw" s_law_draw f fd) (hb : Binds K fd ["hand", "many"] []) (hm : mg "_law_draw" = some (.ref f)) : FnV P w K mg base 1 "_law_draw" (mutS A_law_draw) := by
  refine fn_mut (k := 0) (fun cs ds R R' h ⟨hd, m, a, b, c, d, r⟩ => ⟨hd, m, a, b, c, d, h _ _ r⟩) Fu sc_law_draw hb hm (fun cs ds R ⟨hd, m, a, b, _⟩ => by subst b; rfl) fun cdv A' outer s H E hr B q cs ds R ⟨h, many, e1, e2, m0, m1, hR⟩ => ?_
  subst e1 e2
  obtain ⟨cells, i, left, seed, cnt⟩ := h
  have fin : ∀ (h' : Hd) (a b c : Sl), h' = (Hd.mk cells i left seed cnt).turn → CSs (cx P w K mg base ["hand", "many", "cell", "digit", "number"] "_law_draw" s_law_draw f cdv A' outer s H E) [.mut q h'.ds, .dat (.int many), a, b, c] ((defBody s_law_draw).drop 1)
      { nx := fun ρ' => ∃ cs', ρ'[0]? = some (.mut q cs') ∧ R (.ok .non) cs', rt := fun d ρ' => ∃ cs', ρ'[0]? = some (.mut q cs') ∧ R (.ok d) cs', er := fun e ρ' => ∃ cs', ρ'[0]? = some (.mut q cs') ∧ R (.error e) cs' } := fun h' a b c eh => by
    unfold Hd.draw Hd.next at hR
    rw [← eh] at hR
    obtain ⟨cells, i, left, seed, cnt⟩ := h'
    refine css_if (t_bor (t_gt (c_ixL (c_var 0) c_int rfl) c_int)) (fun hc => ?_) (fun hc => ?_)
    · have hc : 0 < left := of_decide_eq_true hc
      refine css_asg 3 B (c_bor rfl (c_mod (c_intI T.int (c_ixL (c_var 0) c_int rfl)) (c_var 1) m0)) ?_
      refine css_setIx (j := 2) 0 B (c_bor rfl (c_div (c_ixL (c_var 0) c_int rfl) (c_var 1) ⟨m0, by omega⟩)) c_int rfl rfl ?_
      refine css_ret (c_var 3) ⟨_, rfl, ?_⟩
      simp only [if_pos hc] at hR
      exact hR
    · have hc : ¬ 0 < left := of_decide_eq_false hc
      refine css_nil ?_
      refine css_setIx (j := 4) 0 B (c_bor rfl (c_add (c_ixL (c_var 0) c_int rfl) c_int)) c_int rfl rfl ?_
      refine css_asg 4 B (c_bor rfl (c_mod (c_intI T.int (c_mul (c_intI T.int (c_add (c_ixL (c_var 0) c_int rfl) (c_mul c_int (c_ixL (c_var 0) c_int rfl) (.inl (by decide))))) c_int (.inr (by decide)))) c_int (by decide))) ?_
      refine css_asg 4 B (c_mod (c_intI T.int (c_mul (c_var 4) (c_add (c_div (c_var 4) c_int ⟨by decide, by decide⟩) c_int) (.inl ?_))) c_int (by decide)) ?_
      · have h1 := Int.emod_nonneg ((seed + 7919 * (cnt + 1)) * 48271) (show (2147483647 : Int) ≠ 0 by decide)
        have h2 := Int.emod_lt_of_pos ((seed + 7919 * (cnt + 1)) * 48271) (show (0 : Int) < 2147483647 by decide)
        omega
      refine css_asg 4 B (c_mod (c_intI T.int (c_mul (c_var 4) (c_add (c_div (c_var 4) c_int ⟨by decide, by decide⟩) c_int) (.inl ?_))) c_int (by decide)) ?_
      · generalize (_ * _ : Int) = z
        have h1 := Int.emod_nonneg z (show (2147483647 : Int) ≠ 0 by decide)
        have h2 := Int.emod_lt_of_pos z (show (0 : Int) < 2147483647 by decide)
        omega
      refine css_ret (c_mod (c_intI T.int (c_div (c_var 4) c_int ⟨by decide, by decide⟩)) (c_var 1) m0) ⟨_, rfl, ?_⟩
      simp only [if_neg hc] at hR
      exact hR
  refine css_if (t_w (w_and (t_bor (t_eqI (c_ixL (c_var 0) c_int rfl) c_int)) (fun _ => (w_and1 (t_bor (t_lt (c_ixL (c_var 0) c_int rfl) (c_lenL T.len (c_ixL (c_var 0) c_int rfl)))))))) (fun hc => ?_) (fun hc => ?_)
  · have hc' : left = 0 ∧ i < cells.length := by simpa using hc
    have hg : (cells.map D.int)[i]? = some (.int (cells.getD i 0)) := at_ints (by rw [List.getD_eq_getElem?_getD, List.getElem?_eq_getElem hc'.2]; rfl)
    refine css_asg 2 B (c_bor rfl (c_ixL (c_ixL (c_var 0) c_int rfl) (c_ixL (c_var 0) c_int rfl) (atI_i rfl hg))) ?_
    refine css_setIx (j := 1) 0 B (c_bor rfl (c_add (c_ixL (c_var 0) c_int rfl) c_int)) c_int rfl rfl ?_
    refine css_setIx (j := 3) 0 B (c_bor rfl (c_mod (c_intI T.int (c_add (c_add (c_mul (c_ixL (c_var 0) c_int rfl) c_int (.inr (by decide))) (c_mul (c_var 2) c_int (.inr (by decide)))) c_int)) c_int (by decide))) c_int rfl rfl ?_
    refine css_if (t_ge (c_var 2) (c_pow c_int c_int ⟨by decide, by decide, by decide⟩)) (fun hd => ?_) (fun hd => ?_)
    · have hd : 10 ^ 18 ≤ cells.getD i 0 := of_decide_eq_true hd
      refine css_setIx (j := 2) 0 B (c_var 2) c_int rfl rfl ?_
      refine css_nil (css_nil ?_)
      refine fin ⟨cells, i + 1, cells.getD i 0, _, cnt⟩ _ _ _ ?_
      unfold Hd.turn
      simp only [if_pos hc', if_pos hd]
    · have hd : ¬ 10 ^ 18 ≤ cells.getD i 0 := of_decide_eq_false hd
      refine css_nil (css_nil ?_)
      refine fin ⟨cells, i + 1, left, _, cnt⟩ _ _ _ ?_
      unfold Hd.turn
      simp only [if_pos hc', if_neg hd]
  · have hc' : ¬ (left = 0 ∧ i < cells.length) := by simpa using hc
    refine css_nil ?_
    refine fin ⟨cells, i, left, seed, cnt⟩ _ _ _ ?_
    unfold Hd.turn
    simp only [if_neg hc']
theorem ok_law_any (T : Blt mg) (F_law_draw : FnV P w K mg base 1 "_law_draw" (mutS A_law_draw)) (Fu : Fun K "_law_any" "_law_any" s_law_any f fd) (hb : Binds K fd ["hand", "some"] []) (hm : mg "_law_any" = some (.ref f)) : FnV P w K mg base 2 "_law_any" (mutS A_law_any) := by
  refine fn_mut (k := 1) (fun cs ds R R' h ⟨hd, m, a, b, c, d, r⟩ => ⟨hd, m, a, b, c, d, h _ _ r⟩) Fu sc_law_any hb hm (fun cs ds R ⟨hd, m, a, b, _⟩ => by subst b; rfl) fun cdv A' outer s H E hr B q cs ds R ⟨h, l, e1, e2, m0, m1, hR⟩ => ?_
  subst e1 e2
  have hl : 0 < l.length := List.length_pos_iff.mpr m0
  have lt := Hd.draw_lt (h := h) (many := (l.length : Nat)) (by omega)
  have hg : l[(h.draw (l.length : Nat)).toNat]? = some (l.getD (h.draw (l.length : Nat)).toNat .non) := by
    rw [List.getD_eq_getElem?_getD, List.getElem?_eq_getElem (by omega)]
    rfl
  exact css_ret (c_ixL (c_var 1) (c_callM 0 F_law_draw (hr.mono (by decide)) rfl (d_cons (c_lenL T.len (c_var 1)) d_nil) rfl (fun R h' => ⟨_, _, _, rfl, h, (l.length : Nat), rfl, rfl, by omega, by omega, h'⟩)) (atI_i (by omega) hg)) ⟨_, rfl, hR⟩
end
end K88
end

section
set_option Elab.async false
set_option linter.all false
set_option maxRecDepth 100000
set_option maxHeartbeats 4000000
namespace K88
open PySem PySem.Spec PyProof.Rows L2 VL
abbrev s_law_is : Stmt := topS 21
theorem sc_law_is : FnScope ["said", "due", "one", "other"] ["said", "due"] (defScope s_law_is) := ⟨rfl, rfl, rfl, by decide +kernel, rfl, by decide +kernel, by decide +kernel⟩
abbrev s_law_ways : Stmt := topS 22
theorem sc_law_ways : FnScope ["coins", "bound", "found", "coin", "number"] ["coins", "bound"] (defScope s_law_ways) := ⟨rfl, rfl, rfl, by decide +kernel, rfl, by decide +kernel, by decide +kernel⟩
abbrev s_law_top : Stmt := topS 24
theorem sc_law_top : FnScope ["often", "found", "turn"] ["often"] (defScope s_law_top) := ⟨rfl, rfl, rfl, by decide +kernel, rfl, by decide +kernel, by decide +kernel⟩
abbrev s_law_of_three : Stmt := topS 29
theorem sc_law_of_three : FnScope ["coins", "number", "first", "last", "ratio"] ["coins", "number"] (defScope s_law_of_three) := ⟨rfl, rfl, rfl, by decide +kernel, rfl, by decide +kernel, by decide +kernel⟩
def A_law_is1 (ds : List D) (r : Res) : Prop := ∃ i j : Int, ds = [.int i, .int j] ∧ r = .ok (.bl (decide (i = j)))
def A_law_is2 (ds : List D) (r : Res) : Prop := ∃ xs ys : List Int, ds = [.lst (xs.map D.int), .lst (ys.map D.int)] ∧ xs.length ≤ 1000 ∧ r = .ok (.bl (decide (xs = ys)))
def A_law_ways (ds : List D) (r : Res) : Prop := ∃ (cs : List Int) (b : Nat), ds = [.tup (cs.map D.int), .int (b : Nat)] ∧ Lad cs ∧ cs.length ≤ 60 ∧ b ≤ 1000 ∧ r = .ok (.lst ((List.range (b + 1)).map fun n => .int (waysD cs (n : Nat))))
def A_law_top (ds : List D) (r : Res) : Prop := ds = [.int 2] ∧ r = .ok (.int MC)
def A_law_of_three (ds : List D) (r : Res) : Prop := ∃ cs n, ds = [.tup (cs.map D.int), .int n] ∧ Lad cs ∧ cs.length ≤ 3 ∧ 0 ≤ n ∧ n ≤ 10 ^ 30 ∧ r = .ok (.int (threeD cs n))
def pairEq : D → Bool
  | .tup [.int a, .int b] => decide (a = b)
  | _ => false
theorem all_pairs : ∀ (xs ys : List Int), (decide (xs.length = ys.length) && ((zipD (xs.map D.int) (ys.map D.int)).map pairEq).all id) = decide (xs = ys)
  | [], [] => rfl
  | [], y :: ys => by simp
  | x :: xs, [] => by simp
  | x :: xs, y :: ys => by
    have h := all_pairs xs ys
    have e : (zipD ((x :: xs).map D.int) ((y :: ys).map D.int)).map pairEq = decide (x = y) :: (zipD (xs.map D.int) (ys.map D.int)).map pairEq := rfl
    rw [e, List.all_cons]
    rw [Bool.eq_iff_iff] at h ⊢
    simp only [Bool.and_eq_true, decide_eq_true_eq, List.length_cons, List.cons.injEq, id] at h ⊢
    constructor
    · rintro ⟨h1, h2, h3⟩
      exact ⟨h2, h.mp ⟨by omega, h3⟩⟩
    · rintro ⟨h1, h2⟩
      have := h.mpr h2
      exact ⟨by omega, h1, this.2⟩
section
variable {P : Program} {w : World} {K : PySem.W.Frag} {mg : Str → Option Value} {base : Heap} {f : Addr} {fd : FuncData}
theorem ok_law_is1 (T : Blt mg) (Fu : Fun K "_law_is" "_law_is" s_law_is f fd) (hb : Binds K fd ["said", "due"] []) (hm : mg "_law_is" = some (.ref f)) : FnV P w K mg base 1 "_law_is" (detS A_law_is1) := by
  refine fn_pure (k := 0) Fu sc_law_is hb hm (fun ds r ⟨i, j, e, _⟩ => by subst e; rfl) fun cdv A' outer s H E hr B ds r ⟨i, j, e, er⟩ => ?_
  subst e er
  refine css_if (t_val (c_isi2 T.isinstance (c_var 1) (c_bty "tuple" T.tuple) (c_bty "list" T.list) rfl rfl rfl)) (fun hc => by cases hc) (fun hc => ?_)
  refine css_nil ?_
  refine css_if (t_w (w_or (t_isN (c_var 1) c_non) (fun _ => (w_or1 (t_isN (c_var 0) c_non))))) (fun hc => by cases hc) (fun hc => ?_)
  refine css_nil ?_
  refine css_if (t_w (w_or (t_neB (c_isi T.isinstance (c_var 0) (c_bty "bool" T.bool) rfl rfl) (c_isi T.isinstance (c_var 1) (c_bty "bool" T.bool) rfl rfl)) (fun _ => (w_or1 (t_neB (c_isi T.isinstance (c_var 0) (c_bty "int" T.int) rfl rfl) (c_isi T.isinstance (c_var 1) (c_bty "int" T.int) rfl rfl)))))) (fun hc => by cases hc) (fun hc => ?_)
  refine css_nil ?_
  exact css_ret (c_and (c_eqB (c_isi T.isinstance (c_var 0) (c_bty "str" T.str) rfl rfl) (c_isi T.isinstance (c_var 1) (c_bty "str" T.str) rfl rfl)) (fun _ => c_one (c_eqI (c_var 0) (c_var 1)))) rfl
theorem ok_law_is2 (T : Blt mg) (F_law_is : FnV P w K mg base 1 "_law_is" (detS A_law_is1)) (Fu : Fun K "_law_is" "_law_is" s_law_is f fd) (hb : Binds K fd ["said", "due"] []) (hm : mg "_law_is" = some (.ref f)) : FnV P w K mg base 2 "_law_is" (detS A_law_is2) := by
  refine fn_pure (k := 1) Fu sc_law_is hb hm (fun ds r ⟨i, j, e, _⟩ => by subst e; rfl) fun cdv A' outer s H E hr B ds r ⟨xs, ys, e, hl, er⟩ => ?_
  subst e er
  refine css_if (t_val (c_isi2 T.isinstance (c_var 1) (c_bty "tuple" T.tuple) (c_bty "list" T.list) rfl rfl rfl)) (fun hc => ?_) (fun hc => by cases hc)
  refine css_if (t_w (w_or (t_neB (c_isi T.isinstance (c_var 0) (c_bty "tuple" T.tuple) rfl rfl) (c_isi T.isinstance (c_var 1) (c_bty "tuple" T.tuple) rfl rfl)) (fun _ => (w_or1 (t_neB (c_isi T.isinstance (c_var 0) (c_bty "list" T.list) rfl rfl) (c_isi T.isinstance (c_var 1) (c_bty "list" T.list) rfl rfl)))))) (fun hc => absurd hc (by simp [isT, tyD])) (fun hc => ?_)
  refine css_nil ?_
  have e1 : (xs.map D.int).length = xs.length := List.length_map _
  have e2 : (ys.map D.int).length = ys.length := List.length_map _
  refine css_ret (c_and (c_eqI (c_lenL T.len (c_var 0)) (c_lenL T.len (c_var 1))) (fun _ => (c_one (c_allL B.calm T.all (bs := (zipD (xs.map D.int) (ys.map D.int)).map pairEq) ((CN.ce (n_lc0 (T := .tp [.nm 2, .nm 3]) (fun d => .bl (pairEq d)) (ci_zipL T.zip (c_var 0) (c_var 1)) [("one", 2), ("other", 3)] B (blkOk_by (N := ["said", "due", "one", "other"]) (sc := defScope s_law_is) (by decide +kernel))
      (fun _ _ _ _ _ => tg_tp rfl (tgs_cons (tg_nm 2 B.nd) (tgs_cons (tg_nm 3 B.nd) tgs_nil))) (by decide) (fun k p ds hk h => by rcases k with _ | _ | _ | _ | k <;> cases h) (fun i d hd => ?_) ?_)).eq ?_))))) ?_
  · obtain ⟨x, y, h1, h2, rfl⟩ := zipD_inv hd
    obtain ⟨u, _, rfl⟩ := List.mem_map.mp (List.mem_of_getElem? h1)
    obtain ⟨v, _, rfl⟩ := List.mem_map.mp (List.mem_of_getElem? h2)
    exact ⟨_, .tp (.cons .nm (.cons .nm .nil)), (fun k p es h => by rcases k with _ | _ | _ | _ | k <;> cases h), fun _ _ _ _ _ => c_call F_law_is (hr.mono (by decide)) (d_cons (c_var 2) (d_cons (c_var 3) d_nil)) (fun R h => ⟨_, _, rfl, ⟨u, v, rfl, rfl⟩, h⟩)⟩
  · unfold zipD
    rw [List.length_zipWith, e1, e2]
    exact szl (by omega)
  · rw [List.map_map]; rfl
  · show Except.ok _ = Except.ok _
    congr 2
    rw [← all_pairs, e1, e2]
    congr 1
    exact decide_eq_decide.mpr Int.ofNat_inj.symm
theorem ok_law_top (T : Blt mg) (Fu : Fun K "_law_top" "_law_top" s_law_top f fd) (hb : Binds K fd ["often"] []) (hm : mg "_law_top" = some (.ref f)) : FnV P w K mg base 1 "_law_top" (detS A_law_top) := by
  refine fn_pure (k := 0) Fu sc_law_top hb hm (fun ds r ⟨e, _⟩ => by subst e; rfl) fun cdv A' outer s H E hr B ds r ⟨e, er⟩ => ?_
  subst e er
  refine css_asg 1 B c_int ?_
  refine css_for (T := .nm 2) B (ci_range1 T.range (c_var 0) (by decide)) (tg_nm 2 B.nd) (fun i ρ => i ≤ 2 ∧ ∃ a, ρ = [.dat (.int 2), .dat (.int ((10 ^ 50) ^ i)), a]) ⟨by decide, _, rfl⟩ (fun i d ρ hd hJ => ?_) (fun ρ hJ => ?_)
  · obtain ⟨hi, rfl⟩ := rangeD_inv hd
    obtain ⟨_, a, rfl⟩ := hJ
    refine ⟨_, .nm, ?_⟩
    refine css_asg 1 B (c_mulW (c_var 1) (c_pow c_int c_int ⟨by decide, by decide, by decide⟩) ?_) ?_
    · have : i < 2 := hi
      have : i = 0 ∨ i = 1 := by omega
      rcases this with rfl | rfl <;> (unfold CMulW; decide +kernel)
    have : i < 2 := hi
    exact css_nil ⟨by omega, .dat (.int (0 + (i : Nat))), rfl⟩
  · obtain ⟨_, a, rfl⟩ := hJ
    exact css_ret (c_var 1) (by rw [rangeD_len]; unfold MC; rfl)
theorem ok_law_of_three (T : Blt mg) (Fu : Fun K "_law_of_three" "_law_of_three" s_law_of_three f fd) (hb : Binds K fd ["coins", "number"] []) (hm : mg "_law_of_three" = some (.ref f)) : FnV P w K mg base 1 "_law_of_three" (detS A_law_of_three) := by
  refine fn_pure (k := 0) Fu sc_law_of_three hb hm (fun ds r ⟨cs, n, e, _⟩ => by subst e; rfl) fun cdv A' outer s H E hr B ds r ⟨cs, n, e, l, hl, h0, h1, er⟩ => ?_
  subst e er
  have el : (cs.map D.int).length = cs.length := List.length_map _
  have hne := l.ne
  unfold threeD
  have at_ : ∀ {k : Nat} {i : Int}, i = (k : Nat) → k < cs.length → atI (cs.map D.int) i = some (.int (cs.getD k 0)) := fun {k i} e h => atI_i e (at_ints (l.at h).1)
  refine css_if (t_eqI (c_lenT T.len (c_var 0)) c_int) (fun hc => ?_) (fun hc => ?_)
  · have hc : cs.length = 1 := by rw [el] at hc; have := of_decide_eq_true hc; omega
    exact css_ret c_int (by rw [if_pos hc])
  have hc : ¬ cs.length = 1 := by rw [el] at hc; have := of_decide_eq_false hc; omega
  rw [if_neg hc]
  refine css_nil ?_
  have b1 := (l.at (k := 1) (by omega)).2
  refine css_asg 2 B (c_divW (c_var 1) (c_ixT (c_var 0) c_int (at_ (k := 1) rfl (by omega))) (dv_of b1)) ?_
  refine css_if (t_eqI (c_lenT T.len (c_var 0)) c_int) (fun hc => ?_) (fun hc => ?_)
  · have hc : cs.length = 2 := by rw [el] at hc; have := of_decide_eq_true hc; omega
    exact css_ret (c_add (c_var 2) c_int) (by rw [if_pos hc])
  have hc2 : ¬ cs.length = 2 := by rw [el] at hc; have := of_decide_eq_false hc; omega
  rw [if_neg hc2]
  refine css_nil ?_
  have b2 := (l.at (k := 2) (by omega)).2
  have lt2 : ∀ {x : Int}, 0 ≤ x → x ≤ MC → Lt2 333 x := fun {x} h1 h2 => Nat.lt_of_le_of_lt (by omega) mc_bits
  have mb : (10 : Int) ^ 30 ≤ MC := by unfold MC; decide
  have q1 := Int.ediv_nonneg h0 (show 0 ≤ cs.getD 1 0 by omega)
  have q1' := Int.ediv_le_self (cs.getD 1 0) h0
  have q2 := Int.ediv_nonneg h0 (show 0 ≤ cs.getD 2 0 by omega)
  have q2' := Int.ediv_le_self (cs.getD 2 0) h0
  have q3 := Int.ediv_nonneg (show 0 ≤ cs.getD 2 0 by omega) (show 0 ≤ cs.getD 1 0 by omega)
  have q3' := Int.ediv_le_self (cs.getD 1 0) (show 0 ≤ cs.getD 2 0 by omega)
  have m30 : (10 : Int) ^ 30 + 1 ≤ MC := by unfold MC; decide
  have L1 : Lt2 333 (n / cs.getD 2 0 + 1) := lt2 (by omega) (by omega)
  have L2' : Lt2 333 (n / cs.getD 1 0 + 1) := lt2 (by omega) (by omega)
  have L3 : Lt2 333 (n / cs.getD 2 0) := lt2 (by omega) (by omega)
  have L4 : Lt2 333 (cs.getD 2 0 / cs.getD 1 0) := lt2 (by omega) (by omega)
  refine css_par 3 4 B (d_cons (c_divW (c_var 1) (c_ixT (c_var 0) c_int (at_ (k := 2) rfl (by omega))) (dv_of b2)) (d_cons (c_divW (c_ixT (c_var 0) c_int (at_ (k := 2) rfl (by omega))) (c_ixT (c_var 0) c_int (at_ (k := 1) rfl (by omega))) (dv_of b1)) d_nil)) ?_
  have mul : ∀ {x y : Int} {b c : Nat}, Lt2 b x → Lt2 c y → b + c < 1000000 → CMulW x y := fun {x y b c} h1 h2 h3 => by
    have a1 := h1.log
    have a2 := h2.log
    unfold CMulW; omega
  refine css_ret (c_sub (c_mulW (c_add (c_var 3) c_int) (c_add (c_var 2) c_int) (mul L1 L2' (by decide))) (c_mulW (c_var 4) (c_div (c_mulW (c_var 3) (c_add (c_var 3) c_int) (mul L3 L1 (by decide))) c_int ⟨by decide, by decide⟩) (mul L4 ((L3.mul L1).div 1) (by decide)))) rfl
theorem ok_law_ways (T : Blt mg) (Fu : Fun K "_law_ways" "_law_ways" s_law_ways f fd) (hb : Binds K fd ["coins", "bound"] []) (hm : mg "_law_ways" = some (.ref f)) : FnV P w K mg base 1 "_law_ways" (detS A_law_ways) := by
  refine fn_pure (k := 0) Fu sc_law_ways hb hm (fun ds r ⟨cs, n, e, _⟩ => by subst e; rfl) fun cdv A' outer s H E hr B ds r ⟨cs, b, e, l, hl, hb1, er⟩ => ?_
  subst e er
  have hne := l.ne
  have el : (cs.map D.int).length = cs.length := List.length_map _
  have e0 : ∀ g : Nat → Int, ((List.range (b + 1)).map fun n => D.int (g n)).length = b + 1 := fun g => by rw [List.length_map, List.length_range]
  have hg : ∀ (g : Nat → Int) {k : Nat} {i : Int}, i = (k : Nat) → k ≤ b → atI ((List.range (b + 1)).map fun n => D.int (g n)) i = some (.int (g k)) := fun g {k i} e h => atI_i e (by rw [List.getElem?_map, List.getElem?_range (by omega)]; rfl)
  refine css_asgN 2 B ((n_catL (CN.ce (n_lst (d_cons c_int d_nil) (sz (by simp)))) (CN.ce (n_repL (CN.ce (n_lst (d_cons c_int d_nil) (sz (by simp)))) (c_var 1) ⟨by omega, by omega⟩ (sz (by simp; omega)))) (sz (by simp [flat1]; omega))).eq (ys := (List.range (b + 1)).map fun n => D.int (tabAt cs 0 n)) ?_) (fun q => ?_)
  · rw [flat1, Int.toNat_natCast, List.range_succ_eq_map, List.map_cons, List.map_map]
    show D.int 1 :: List.replicate b (D.int 0) = D.int 1 :: (List.range b).map ((fun n => D.int (tabAt cs 0 n)) ∘ Nat.succ)
    have e9 : (List.range b).map ((fun n => D.int (tabAt cs 0 n)) ∘ Nat.succ) = (List.range b).map fun _ => D.int 0 := List.map_congr_left fun _ _ => rfl
    rw [e9, List.map_const', List.length_range]
  refine css_for (T := .nm 3) B (ci_tup (c_var 0)) (tg_nm 3 B.nd) (fun j ρ => j ≤ cs.length ∧ ∃ a c, ρ = [.dat (.tup (cs.map D.int)), .dat (.int (b : Nat)), .mut q ((List.range (b + 1)).map fun n => D.int (tabAt cs j n)), a, c]) ⟨Nat.zero_le _, _, _, rfl⟩ (fun j d ρ hd hJ => ?_) (fun ρ hJ => ?_)
  · obtain ⟨_, a, c, rfl⟩ := hJ
    have hj : j < cs.length := by
      have := (List.getElem?_eq_some_iff.mp hd).1
      omega
    have ed : d = .int (cN cs j : Nat) := by
      have h1 := at_ints (l.at hj).1
      rw [hd] at h1
      cases h1
      rw [(cN_at l hj).1]
    subst ed
    have cp := (cN_at l hj).2
    refine ⟨_, .nm, ?_⟩
    let g : Nat → Nat → Int := fun i n => if n < cN cs j + i then tabAt cs (j + 1) n else tabAt cs j n
    have g0 : ∀ n, g 0 n = tabAt cs j n := fun n => by
      show (if n < cN cs j + 0 then _ else _) = _
      split
      · show recF (tabAt cs j) (cN cs j) n = _
        rw [recF_step cp, if_neg (by omega), Int.add_zero]
      · rfl
    refine css_for (T := .nm 4) B (ci_range2W T.range (c_var 3) (c_add (c_var 1) c_int)) (tg_nm 4 B.nd) (fun i ρ => ∃ c, ρ = [.dat (.tup (cs.map D.int)), .dat (.int (b : Nat)), .mut q ((List.range (b + 1)).map fun n => D.int (g i n)), .dat (.int (cN cs j : Nat)), c]) ⟨c, ?_⟩ (fun i d ρ hd hJ => ?_) (fun ρ hJ => ?_)
    · simp only [g0]; rfl
    · obtain ⟨hi, rfl⟩ := rangeD_inv hd
      obtain ⟨c, rfl⟩ := hJ
      have hi2 : cN cs j + i ≤ b := by omega
      refine ⟨_, .nm, ?_⟩
      refine css_setIx (j := cN cs j + i) 2 B (c_bor rfl (c_add (c_ixL (c_var 2) (c_var 4) (hg (g i) (k := cN cs j + i) (by omega) hi2)) (c_ixL (c_var 2) (c_sub (c_var 4) (c_var 3)) (hg (g i) (k := i) (by omega) (by omega))))) (c_var 4) rfl (ixN_nat (by omega) (by rw [e0]; omega)) ?_
      refine css_nil ⟨.dat (.int ((cN cs j : Nat) + (i : Nat))), ?_⟩
      have key : ((List.range (b + 1)).map fun n => D.int (g i n)).set (cN cs j + i) (.int (g i (cN cs j + i) + g i i)) = (List.range (b + 1)).map fun n => D.int (g (i + 1) n) := by
        apply List.ext_getElem?
        intro n
        by_cases hn : n = cN cs j + i
        · subst hn
          rw [List.getElem?_set_self (by rw [e0]; omega), List.getElem?_map, List.getElem?_range (by omega)]
          show some (D.int _) = some (D.int (if cN cs j + i < cN cs j + (i + 1) then _ else _))
          rw [if_pos (by omega)]
          show _ = some (D.int (recF (tabAt cs j) (cN cs j) (cN cs j + i)))
          rw [recF_step cp, if_pos (by omega), Nat.add_sub_cancel_left]
          show some (D.int ((if cN cs j + i < cN cs j + i then _ else _) + (if i < cN cs j + i then _ else _))) = _
          rw [if_neg (by omega), if_pos (by omega)]
          rfl
        · rw [List.getElem?_set_ne (Ne.symm hn), List.getElem?_map, List.getElem?_map]
          by_cases hb2 : n < b + 1
          · rw [List.getElem?_range hb2]
            show some (D.int (if n < cN cs j + i then _ else _)) = some (D.int (if n < cN cs j + (i + 1) then _ else _))
            by_cases h3 : n < cN cs j + i
            · rw [if_pos h3, if_pos (by omega)]
            · rw [if_neg h3, if_neg (by omega)]
          · rw [List.getElem?_eq_none (by rw [List.length_range]; omega)]; rfl
      rw [← key]
      rfl
    · obtain ⟨c, rfl⟩ := hJ
      refine css_nil ⟨by omega, .dat (.int (cN cs j : Nat)), c, ?_⟩
      have ge : ∀ n, n ≤ b → g (rangeD ((cN cs j : Nat) : Int) ((b : Int) + 1 - ((cN cs j : Nat) : Int)).toNat).length n = tabAt cs (j + 1) n := fun n hn => by
        show (if n < cN cs j + (rangeD ((cN cs j : Nat) : Int) ((b : Int) + 1 - ((cN cs j : Nat) : Int)).toNat).length then _ else _) = _
        rw [rangeD_len]
        by_cases h : n < cN cs j + ((b : Int) + 1 - ((cN cs j : Nat) : Int)).toNat
        · rw [if_pos h]
        · omega
      have e3 : ((List.range (b + 1)).map fun n => D.int (g (rangeD ((cN cs j : Nat) : Int) ((b : Int) + 1 - ((cN cs j : Nat) : Int)).toNat).length n)) = (List.range (b + 1)).map fun n => D.int (tabAt cs (j + 1) n) := List.map_congr_left fun n hn => by rw [ge n (by rw [List.mem_range] at hn; omega)]
      rw [e3]
  · obtain ⟨_, a, c, rfl⟩ := hJ
    refine css_freeze (i := 2) rfl ?_
    refine css_ret (c_var 2) ?_
    rw [el]
    show Except.ok _ = Except.ok _
    congr 2
    exact List.map_congr_left fun n _ => by rw [tab_ways l n]
end
end K88
end

section
set_option Elab.async false
set_option linter.all false
set_option maxRecDepth 100000
set_option maxHeartbeats 4000000
namespace K88
open PySem PySem.Spec PyProof.Rows L2 VL
abbrev s_law_deep : Stmt := topS 23
theorem sc_law_deep : FnScope ["hand", "found", "turn"] ["hand"] (defScope s_law_deep) := ⟨rfl, rfl, rfl, by decide +kernel, rfl, by decide +kernel, by decide +kernel⟩
abbrev s_law_ladder : Stmt := topS 25
theorem sc_law_ladder : FnScope ["hand", "many", "wide", "found"] ["hand"] (defScope s_law_ladder) := ⟨rfl, rfl, rfl, by decide +kernel, rfl, by decide +kernel, by decide +kernel⟩
abbrev s_law_number : Stmt := topS 26
theorem sc_law_number : FnScope ["hand", "found", "turn"] ["hand"] (defScope s_law_number) := ⟨rfl, rfl, rfl, by decide +kernel, rfl, by decide +kernel, by decide +kernel⟩
/-- one turn of the nesting -/
def nest (d : D) (k : Int) : D := ([.tup [d], .lst [d], .dic [(.inl 0, d)]] : List D).getD k.toNat .non
def deepGo : Nat → D → Hd → D × Hd
  | 0, d, h => (d, h)
  | n + 1, d, h => let p := deepGo n d h; (nest p.1 (p.2.draw 3), p.2.next 3)
def deepF (h : Hd) : D × Hd :=
  let h1 := h.next 3
  deepGo (1 + h1.draw 29).toNat (([.non, .str "0", .bl true] : List D).getD (h.draw 3).toNat .non) (h1.next 29)
theorem lt3 {h : Hd} : h.draw 3 = 0 ∨ h.draw 3 = 1 ∨ h.draw 3 = 2 := by
  have := Hd.draw_lt (h := h) (many := 3) (by decide)
  omega
def deepOk : D → Bool
  | .tup _ => true
  | .lst _ => true
  | .dic _ => true
  | _ => false
theorem nest_ok (d : D) (h : Hd) : deepOk (nest d (h.draw 3)) = true := by
  rcases lt3 (h := h) with e | e | e <;> (rw [e]; rfl)
theorem deep_ok (h : Hd) : deepOk (deepF h).1 = true := by
  unfold deepF
  have := Hd.draw_lt (h := h.next 3) (many := 29) (by decide)
  obtain ⟨n, hn⟩ : ∃ n, (1 + (h.next 3).draw 29).toNat = n + 1 := ⟨((h.next 3).draw 29).toNat, by omega⟩
  simp only [hn]
  exact nest_ok _ _
def A_law_deep (cs ds : List D) (R : Res → List D → Prop) : Prop := ∃ h : Hd, cs = h.ds ∧ ds = [] ∧ R (.ok (deepF h).1) (deepF h).2.ds
def A_law_number (cs ds : List D) (R : Res → List D → Prop) : Prop := ∃ h : Hd, cs = h.ds ∧ ds = [] ∧ ∀ (n : Int) (h' : Hd), 0 ≤ n → n ≤ 10 ^ 30 → R (.ok (.int n)) h'.ds
def A_law_ladder (cs ds : List D) (R : Res → List D → Prop) : Prop := ∃ h : Hd, cs = h.ds ∧ ds = [] ∧ ∀ (l : List Int) (h' : Hd), Lad l → l.length ≤ 8 → R (.ok (.tup (l.map D.int))) h'.ds
theorem Lad.push {cs : List Int} (l : Lad cs) {c : Int} (h1 : cs.getD (cs.length - 1) 0 < c) (h2 : c % cs.getD (cs.length - 1) 0 = 0) (h3 : c ≤ MC) : Lad (cs ++ [c]) := by
  have hl := l.ne
  have g : ∀ j, j < cs.length → (cs ++ [c]).getD j 0 = cs.getD j 0 := fun j hj => by
    rw [List.getD_eq_getElem?_getD, List.getD_eq_getElem?_getD, List.getElem?_append_left hj]
  have gl : (cs ++ [c]).getD cs.length 0 = c := by
    rw [List.getD_eq_getElem?_getD, List.getElem?_append_right (Nat.le_refl _), Nat.sub_self]; rfl
  have hp := (l.at (k := cs.length - 1) (by omega)).2
  refine ⟨by rw [List.length_append]; omega, by rw [g 0 (by omega)]; exact l.one, fun x hx => ?_, fun k hk => ?_⟩
  · rcases List.mem_append.mp hx with hx | hx
    · exact l.pos x hx
    · rw [List.mem_singleton] at hx
      subst hx
      exact ⟨by omega, h3⟩
  · rw [List.length_append] at hk
    simp at hk
    by_cases e : k + 1 < cs.length
    · rw [g k (by omega), g (k + 1) e]; exact l.up k e
    · have e2 : k + 1 = cs.length := by omega
      have e3 : k = cs.length - 1 := by omega
      rw [g k (by omega), e2, gl, e3]
      exact ⟨h1, h2⟩
section
variable {P : Program} {w : World} {K : PySem.W.Frag} {mg : Str → Option Value} {base : Heap} {f : Addr} {fd : FuncData}
theorem ok_law_deep (T : Blt mg) (F_law_draw : FnV P w K mg base 1 "_law_draw" (mutS A_law_draw)) (F_law_any : FnV P w K mg base 2 "_law_any" (mutS A_law_any)) (Fu : Fun K "_law_deep" "_law_deep" s_law_deep f fd) (hb : Binds K fd ["hand"] []) (hm : mg "_law_deep" = some (.ref f)) : FnV P w K mg base 3 "_law_deep" (mutS A_law_deep) := by
  refine fn_mut (k := 2) (fun cs ds R R' h ⟨hd, a, b, r⟩ => ⟨hd, a, b, h _ _ r⟩) Fu sc_law_deep hb hm (fun cs ds R ⟨hd, a, b, _⟩ => by subst b; rfl) fun cdv A' outer s H E hr B q cs ds R ⟨h, e1, e2, hR⟩ => ?_
  subst e1 e2
  refine css_asg 1 B (c_callM 0 F_law_any (hr.mono (by decide)) rfl (d_cons (CN.ce (n_lst (d_cons c_non (d_cons c_str (d_cons c_bl d_nil))) (sz (by simp)))) d_nil) rfl (fun R h' => ⟨_, _, _, rfl, h, _, rfl, rfl, by simp, by decide, h'⟩)) ?_
  have b29 := Hd.draw_lt (h := h.next 3) (many := 29) (by decide)
  refine css_for (T := .nm 2) B (ci_range1 T.range (c_add c_int (c_callM 0 F_law_draw (hr.mono (by decide)) rfl (d_cons c_int d_nil) rfl (fun R h' => ⟨_, _, _, rfl, h.next 3, 29, rfl, rfl, by decide, by decide, h'⟩))) ⟨by omega, by omega⟩) (tg_nm 2 B.nd)
    (fun i ρ => ∃ a, let p := deepGo i (([.non, .str "0", .bl true] : List D).getD (h.draw 3).toNat .non) ((h.next 3).next 29); ρ = [.mut q p.2.ds, .dat p.1, a]) ⟨_, rfl⟩ (fun i d ρ hd hJ => ?_) (fun ρ hJ => ?_)
  · obtain ⟨hi, rfl⟩ := rangeD_inv hd
    obtain ⟨a, e⟩ := hJ
    generalize hp : deepGo i (([.non, .str "0", .bl true] : List D).getD (h.draw 3).toNat .non) ((h.next 3).next 29) = p at e
    simp only at e
    subst e
    refine ⟨_, .nm, ?_⟩
    have b3 := Hd.draw_lt (h := p.2) (many := 3) (by decide)
    refine css_asg 1 B (c_ixL (d := nest p.1 (p.2.draw 3)) (CN.ce (n_lst (d_cons (c_tup (d_cons (c_var 1) d_nil) (sz (by simp))) (d_cons (CN.ce (n_lst (d_cons (c_var 1) d_nil) (sz (by simp)))) (d_cons (c_dict1 1 rfl) d_nil))) (sz (by simp)))) (c_callM 0 F_law_draw (hr.mono (by decide)) rfl (d_cons c_int d_nil) rfl (fun R h' => ⟨_, _, _, rfl, p.2, 3, rfl, rfl, by decide, by decide, h'⟩)) ?_) ?_
    · rcases lt3 (h := p.2) with e | e | e <;> (rw [e]; rfl)
    · refine css_nil ⟨.dat (.int (0 + (i : Nat))), ?_⟩
      show _ = [Sl.mut q (deepGo (i + 1) _ _).2.ds, _, _]
      unfold deepGo
      rw [hp]
      rfl
  · obtain ⟨a, e⟩ := hJ
    simp only at e
    subst e
    rw [rangeD_len]
    exact css_ret (c_var 1) ⟨_, rfl, hR⟩
theorem ok_law_number (T : Blt mg) (F_law_draw : FnV P w K mg base 1 "_law_draw" (mutS A_law_draw)) (F_law_any : FnV P w K mg base 2 "_law_any" (mutS A_law_any)) (Fu : Fun K "_law_number" "_law_number" s_law_number f fd) (hb : Binds K fd ["hand"] []) (hm : mg "_law_number" = some (.ref f)) : FnV P w K mg base 3 "_law_number" (mutS A_law_number) := by
  refine fn_mut (k := 2) (fun cs ds R R' h ⟨hd, a, b, r⟩ => ⟨hd, a, b, fun n h' h1 h2 => h _ _ (r n h' h1 h2)⟩) Fu sc_law_number hb hm (fun cs ds R ⟨hd, a, b, _⟩ => by subst b; rfl) fun cdv A' outer s H E hr B q cs ds R ⟨h, e1, e2, hR⟩ => ?_
  subst e1 e2
  have b6 := Hd.draw_lt (h := h) (many := 10 ^ 6) (by decide)
  refine css_asg 1 B (c_callM 0 F_law_draw (hr.mono (by decide)) rfl (d_cons (c_pow c_int c_int ⟨by decide, by decide, by decide⟩) d_nil) rfl (fun R h' => ⟨_, _, _, rfl, h, 10 ^ 6, rfl, rfl, by decide, by decide, h'⟩)) ?_
  have e3 : ∀ g : Hd, ∃ t : Nat, t ≤ 4 ∧ ([.int 0, .int 1, .int 4] : List D).getD (g.draw 3).toNat .non = .int (t : Nat) := fun g => by
    rcases lt3 (h := g) with e | e | e
    · exact ⟨0, by decide, by rw [e]; rfl⟩
    · exact ⟨1, by decide, by rw [e]; rfl⟩
    · exact ⟨4, by decide, by rw [e]; rfl⟩
  obtain ⟨t, ht, et⟩ := e3 (h.next (10 ^ 6))
  refine css_for (T := .nm 2) B (ci_range1 (j := (t : Nat)) T.range ((c_callM 0 F_law_any (hr.mono (by decide)) rfl (d_cons (CN.ce (n_lst (d_cons c_int (d_cons c_int (d_cons c_int d_nil))) (sz (by simp)))) d_nil) rfl (fun R h' => ⟨_, _, _, rfl, h.next (10 ^ 6), _, rfl, rfl, by simp, by decide, h'⟩)).eq et) ⟨by omega, by omega⟩) (tg_nm 2 B.nd)
    (fun i ρ => ∃ (a : Sl) (g : Hd) (n : Int), 0 ≤ n ∧ n < (10 ^ 6) ^ (i + 1) ∧ ρ = [.mut q g.ds, .dat (.int n), a]) ⟨_, _, _, b6.1, b6.2, rfl⟩ (fun i d ρ hd hJ => ?_) (fun ρ hJ => ?_)
  · obtain ⟨hi, rfl⟩ := rangeD_inv hd
    obtain ⟨a, g, n, h0, h1, rfl⟩ := hJ
    have g6 := Hd.draw_lt (h := g) (many := 10 ^ 6) (by decide)
    refine ⟨_, .nm, ?_⟩
    refine css_asg 1 B (c_add (c_mul (c_var 1) (c_pow c_int c_int ⟨by decide, by decide, by decide⟩) (.inr (by decide))) (c_callM 0 F_law_draw (hr.mono (by decide)) rfl (d_cons (c_pow c_int c_int ⟨by decide, by decide, by decide⟩) d_nil) rfl (fun R h' => ⟨_, _, _, rfl, g, 10 ^ 6, rfl, rfl, by decide, by decide, h'⟩))) ?_
    refine css_nil ⟨.dat (.int (0 + (i : Nat))), g.next (10 ^ 6), _, ?_, ?_, rfl⟩
    · show 0 ≤ n * (10 ^ 6) + g.draw (10 ^ 6)
      omega
    · show n * (10 ^ 6) + g.draw (10 ^ 6) < _
      rw [show (((10 : Int) ^ 6) ^ (i + 1 + 1)) = ((10 : Int) ^ 6) ^ (i + 1) * 10 ^ 6 from Int.pow_succ _ _]
      have g7 := g6.2
      generalize ((10 : Int) ^ 6) ^ (i + 1) = z at h1 ⊢
      generalize g.draw (10 ^ 6) = y at g7 ⊢
      omega
  · obtain ⟨a, g, n, h0, h1, rfl⟩ := hJ
    rw [rangeD_len] at h1
    have hn : n < 10 ^ 30 := by
      have : ((t : Nat) : Int).toNat = t := Int.toNat_natCast t
      rw [this] at h1
      have : t = 0 ∨ t = 1 ∨ t = 2 ∨ t = 3 ∨ t = 4 := by omega
      rcases this with rfl | rfl | rfl | rfl | rfl <;> (simp at h1 ⊢; omega)
    have e4 : ∃ m : Int, 0 ≤ m ∧ m ≤ 10 ^ 30 ∧ ([.int n, .int n, .int (10 ^ 30)] : List D).getD (g.draw 3).toNat .non = .int m := by
      rcases lt3 (h := g) with e | e | e
      · exact ⟨n, h0, by omega, by rw [e]; rfl⟩
      · exact ⟨n, h0, by omega, by rw [e]; rfl⟩
      · exact ⟨10 ^ 30, by decide, Int.le_refl _, by rw [e]; rfl⟩
    obtain ⟨m, m0, m1, em⟩ := e4
    exact css_ret ((c_callM 0 F_law_any (hr.mono (by decide)) rfl (d_cons (CN.ce (n_lst (d_cons (c_var 1) (d_cons (c_var 1) (d_cons (c_pow c_int c_int ⟨by decide, by decide, by decide⟩) d_nil))) (sz (by simp)))) d_nil) rfl (fun R h' => ⟨_, _, _, rfl, g, _, rfl, rfl, by simp, by simp, h'⟩)).eq em) ⟨_, rfl, hR m _ m0 m1⟩
end
end K88
end

section
set_option Elab.async false
set_option linter.all false
set_option maxRecDepth 100000
set_option maxHeartbeats 4000000
namespace K88
open PySem PySem.Spec PyProof.Rows L2 VL
abbrev s_law_no_coins : Stmt := topS 27
theorem sc_law_no_coins : FnScope ["hand", "coins", "at", "kind", "odd"] ["hand", "coins"] (defScope s_law_no_coins) := ⟨rfl, rfl, rfl, by decide +kernel, rfl, by decide +kernel, by decide +kernel⟩
/-- what are no coins: the first that is wrong -/
def NoC (aC : Addr) (none : D) (a : Int) : Prop := plT none = true ∧ ladRes aC none = .error ⟨aC, [("at", .int a)]⟩
def A_law_no_coins (aC : Addr) (cs ds : List D) (R : Res → List D → Prop) : Prop := ∃ (h : Hd) (l : List Int), cs = h.ds ∧ ds = [.tup (l.map D.int)] ∧ Lad l ∧ l.length ≤ 8 ∧ ∀ (x : D) (a : Int) (h' : Hd), NoC aC x a → R (.ok (.tup [x, .int a])) h'.ds
theorem getD_mem {l : List D} {k : Nat} (h : k < l.length) : l.getD k .non ∈ l := by
  rw [List.getD_eq_getElem?_getD, List.getElem?_eq_getElem h]
  exact List.getElem_mem h
def badX (p : Option Int) : D → Bool
  | .int c => !(decide (1 ≤ c) && decide (c ≤ MC) && match p with
    | none => decide (c = 1)
    | some p => decide (p < c) && decide (c % p = 0))
  | _ => true
theorem ladRes_set {cs : List Int} (l : Lad cs) (h60 : cs.length ≤ 60) {k : Nat} (hk : k < cs.length) {x : D} (hx : badX (if k = 0 then none else some (cs.getD (k - 1) 0)) x = true) (C : Addr) : ladRes C (.tup ((cs.map D.int).set k x)) = .error ⟨C, [("at", .int (k : Nat))]⟩ := by
  have el : ((cs.map D.int).set k x).length = cs.length := by rw [List.length_set, List.length_map]
  have gk : ((cs.map D.int).set k x)[k]? = some x := List.getElem?_set_self (by rw [List.length_map]; exact hk)
  have gn : ∀ j, j ≠ k → ((cs.map D.int).set k x)[j]? = (cs.map D.int)[j]? := fun j hj => List.getElem?_set_ne (Ne.symm hj)
  have hb : ladBad ((cs.map D.int).set k x) = some k := by
    refine ladBad_some (by rw [el]; exact hk) (fun j hj => ?_) ?_
    · unfold okAt
      rw [gn j (by omega), at_ints (l.at (k := j) (by omega)).1]
      have h1 := (l.at (k := j) (by omega)).2
      cases j with
      | zero =>
        simp only [Bool.and_eq_true, decide_eq_true_eq, if_true]
        exact ⟨⟨h1.1, h1.2⟩, l.one⟩
      | succ j =>
        have h2 := (l.at (k := j) (by omega)).1
        have h3 := l.up j (by omega)
        simp only [Nat.add_sub_cancel, gn j (by omega), at_ints h2, Bool.and_eq_true, decide_eq_true_eq]
        rw [if_neg (by omega)]
        simp only [Bool.and_eq_true, decide_eq_true_eq]
        exact ⟨⟨h1.1, h1.2⟩, h3⟩
    · unfold okAt
      rw [gk]
      cases x with
      | int c =>
        unfold badX at hx
        simp only at hx ⊢
        rw [Bool.not_eq_true'] at hx
        rw [← hx]
        by_cases e : k = 0
        · simp only [if_pos e]
        · simp only [if_neg e, gn (k - 1) (by omega), at_ints (l.at (k := k - 1) (by omega)).1]
      | _ => rfl
  unfold ladRes
  have hl := l.ne
  simp only [el, if_pos (show 1 ≤ cs.length ∧ cs.length ≤ 60 from ⟨hl, h60⟩), hb]
theorem pl_set {cs : List Int} {k : Nat} {x : D} (hx : plD x = true) : plT (.tup ((cs.map D.int).set k x)) = true := by
  unfold plT
  rw [List.all_eq_true]
  intro d hd
  rcases List.mem_or_eq_of_mem_set hd with h | h
  · obtain ⟨c, _, rfl⟩ := List.mem_map.mp h
    rfl
  · rw [h]; exact hx
section
variable {P : Program} {w : World} {K : PySem.W.Frag} {mg : Str → Option Value} {base : Heap} {f aC : Addr} {fd : FuncData}
theorem ok_law_ladder (T : Blt mg) (F_law_draw : FnV P w K mg base 1 "_law_draw" (mutS A_law_draw)) (F_law_any : FnV P w K mg base 2 "_law_any" (mutS A_law_any)) (F_law_top : FnV P w K mg base 1 "_law_top" (detS A_law_top)) (Fu : Fun K "_law_ladder" "_law_ladder" s_law_ladder f fd) (hb : Binds K fd ["hand"] []) (hm : mg "_law_ladder" = some (.ref f)) : FnV P w K mg base 3 "_law_ladder" (mutS A_law_ladder) := by
  refine fn_mut (k := 2) (fun cs ds R R' h ⟨hd, a, b, r⟩ => ⟨hd, a, b, fun l h' h1 h2 => h _ _ (r l h' h1 h2)⟩) Fu sc_law_ladder hb hm (fun cs ds R ⟨hd, a, b, _⟩ => by subst b; rfl) fun cdv A' outer s H E hr B q cs ds R ⟨h, e1, e2, hR⟩ => ?_
  subst e1 e2
  have b8 := Hd.draw_lt (h := h) (many := 8) (by decide)
  have b5 := Hd.draw_lt (h := h.next 8) (many := 5) (by decide)
  obtain ⟨wd, w1, w2, ew⟩ : ∃ wd : Int, 1 ≤ wd ∧ wd ≤ 10 ^ 5 ∧ ([.int 1, .int 2, .int 5, .int 40, .int (10 ^ 5)] : List D).getD ((h.next 8).draw 5).toNat .non = .int wd := by
    have : (h.next 8).draw 5 = 0 ∨ (h.next 8).draw 5 = 1 ∨ (h.next 8).draw 5 = 2 ∨ (h.next 8).draw 5 = 3 ∨ (h.next 8).draw 5 = 4 := by omega
    rcases this with e | e | e | e | e <;> rw [e]
    · exact ⟨1, by decide, by decide, rfl⟩
    · exact ⟨2, by decide, by decide, rfl⟩
    · exact ⟨5, by decide, by decide, rfl⟩
    · exact ⟨40, by decide, by decide, rfl⟩
    · exact ⟨10 ^ 5, by decide, by decide, rfl⟩
  refine css_par3M 1 2 3 B (c_add c_int (c_callM 0 F_law_draw (hr.mono (by decide)) rfl (d_cons c_int d_nil) rfl (fun R h' => ⟨_, _, _, rfl, h, 8, rfl, rfl, by decide, by decide, h'⟩)))
    ((c_callM 0 F_law_any (hr.mono (by decide)) rfl (d_cons (CN.ce (n_lst (d_cons c_int (d_cons c_int (d_cons c_int (d_cons c_int (d_cons (c_pow c_int c_int ⟨by decide, by decide, by decide⟩) d_nil))))) (sz (by simp)))) d_nil) rfl (fun R h' => ⟨_, _, _, rfl, h.next 8, _, rfl, rfl, by simp, by decide, h'⟩)).eq ew)
    (n_lst (d_cons c_int d_nil) (sz (by simp))) (fun q2 => ?_)
  refine css_while B (fun m ρ => ∃ (g : Hd) (l : List Int), Lad l ∧ l.length ≤ 8 ∧ m = 8 - l.length ∧ ρ = [.mut q g.ds, .dat (.int (1 + h.draw 8)), .dat (.int wd), .mut q2 (l.map D.int)]) 7
    ⟨(h.next 8).next 5, [1], ⟨by decide, rfl, fun c hc => by rw [List.mem_singleton] at hc; subst hc; exact ⟨by decide, by unfold MC; decide⟩, fun k hk => by simp at hk⟩, by decide, rfl, rfl⟩ (fun m ρ hJ => ?_)
  obtain ⟨g, l, lad, hl8, rfl, rfl⟩ := hJ
  have el : (l.map D.int).length = l.length := List.length_map _
  have hne := lad.ne
  obtain ⟨g1, g2, g3⟩ := lad.at (k := l.length - 1) (by omega)
  have hlast : atI (l.map D.int) (-1) = some (.int (l.getD (l.length - 1) 0)) := at_last (by rw [el]; exact at_ints g1)
  refine ⟨_, _, t_w (w_and (t_bor (t_lt (c_lenL T.len (c_var 3)) (c_var 1))) (fun _ => (w_and1 (t_bor (t_le (c_mul (c_ixL (c_var 3) (c_neg c_int) hlast) (c_add c_int (c_var 2)) (.inr ⟨by omega, by omega⟩)) (c_call F_law_top (hr.mono (by decide)) (d_cons c_int d_nil) (fun R h' => ⟨_, _, rfl, ⟨rfl, rfl⟩, h'⟩))))))), fun hc => ?_, fun hc => ?_⟩
  · rw [el] at hc
    obtain ⟨c1, c2⟩ := Bool.and_eq_true_iff.mp hc
    have c1 := of_decide_eq_true c1
    have c2 := of_decide_eq_true c2
    have bw := Hd.draw_lt (h := g) (many := wd) (by omega)
    refine css_append 3 (c_mul (c_bor rfl (c_ixL (c_var 3) (c_neg c_int) hlast)) (c_add c_int (c_callM 0 F_law_draw (hr.mono (by decide)) rfl (d_cons (c_var 2) d_nil) rfl (fun R h' => ⟨_, _, _, rfl, g, wd, rfl, rfl, by omega, by omega, h'⟩))) (.inr ⟨by omega, by omega⟩)) rfl rfl (by rw [el]; exact szl (by omega)) ?_
    have hle : l.getD (l.length - 1) 0 * (2 + g.draw wd) ≤ l.getD (l.length - 1) 0 * (2 + wd) := Int.mul_le_mul_of_nonneg_left (by omega) (by omega)
    have hgt : l.getD (l.length - 1) 0 * 2 ≤ l.getD (l.length - 1) 0 * (2 + g.draw wd) := Int.mul_le_mul_of_nonneg_left (by omega) (by omega)
    refine css_nil ⟨8 - (l.length + 1), by omega, g.next wd, l ++ [l.getD (l.length - 1) 0 * (2 + g.draw wd)], lad.push (by omega) (Int.mul_emod_right _ _) (by omega), by rw [List.length_append]; simp; omega, by rw [List.length_append]; rfl, by rw [List.map_append]; rfl⟩
  · refine css_freeze (i := 3) rfl ?_
    exact css_ret (c_tupL T.tuple (c_var 3)) ⟨_, rfl, hR l g lad hl8⟩
theorem ok_law_no_coins (T : Blt mg) (F_law_draw : FnV P w K mg base 1 "_law_draw" (mutS A_law_draw)) (F_law_any : FnV P w K mg base 2 "_law_any" (mutS A_law_any)) (F_law_top : FnV P w K mg base 1 "_law_top" (detS A_law_top)) (F_law_deep : FnV P w K mg base 3 "_law_deep" (mutS A_law_deep)) (Fu : Fun K "_law_no_coins" "_law_no_coins" s_law_no_coins f fd) (hb : Binds K fd ["hand", "coins"] []) (hm : mg "_law_no_coins" = some (.ref f)) : FnV P w K mg base 4 "_law_no_coins" (mutS (A_law_no_coins aC)) := by
  refine fn_mut (k := 3) (fun cs ds R R' h ⟨hd, l, a, b, c, d, r⟩ => ⟨hd, l, a, b, c, d, fun x a h' h1 => h _ _ (r x a h' h1)⟩) Fu sc_law_no_coins hb hm (fun cs ds R ⟨hd, l, a, b, _⟩ => by subst b; rfl) fun cdv A' outer s H E hr B q cs ds R ⟨h, l, e1, e2, lad, hl8, hR⟩ => ?_
  subst e1 e2
  have el : (l.map D.int).length = l.length := List.length_map _
  have hne := lad.ne
  have b1 := Hd.draw_lt (h := h) (many := (l.length : Nat)) (by omega)
  generalize hat : h.draw (l.length : Nat) = av at b1
  obtain ⟨k, rfl⟩ := nat_of b1.1
  generalize hh1 : h.next (l.length : Nat) = h1
  have b2 := Hd.draw_lt (h := h1) (many := 4) (by decide)
  refine css_par 2 3 B (x := .int (k : Nat)) (d_cons ((c_callM 0 F_law_draw (hr.mono (by decide)) rfl (d_cons (c_lenT T.len (c_var 1)) d_nil) rfl (fun R h' => ⟨_, _, _, rfl, h, (l.length : Nat), rfl, by rw [el], by omega, by omega, h'⟩)).eq (by rw [hat])) (d_cons (c_callM 0 F_law_draw (hr.mono (by decide)) rfl (d_cons c_int d_nil) rfl (fun R h' => ⟨_, _, _, rfl, h.next (l.length : Nat), 4, rfl, rfl, by decide, by decide, h'⟩)) d_nil)) ?_
  rw [hh1]
  refine css_if (t_eqI (c_var 3) c_int) (fun hc => ?_) (fun hc => ?_)
  · generalize hh2 : h1.next 4 = h2
    have b8 := Hd.draw_lt (h := (deepF h2).2) (many := 8) (by decide)
    refine css_ret (c_tup (d_cons (c_callM 0 F_law_any (hr.mono (by decide)) rfl (d_cons (CN.ce (n_lst (d_cons c_non (d_cons c_int (d_cons (CN.ce (n_listT T.list (c_var 1))) (d_cons (c_tup d_nil (sz (by simp))) (d_cons c_str (d_cons c_dict0 (d_cons (c_repT (c_tup (d_cons c_int d_nil) (sz (by simp))) c_int (by simp) (by decide) (by simp)) (d_cons (CN.ce (n_lst (d_cons (c_callM 0 F_law_deep (hr.mono (by decide)) rfl d_nil rfl (fun R h' => ⟨_, _, _, rfl, h2, rfl, rfl, h'⟩)) d_nil) (sz (by simp)))) d_nil)))))))) (sz (by simp)))) d_nil) rfl (fun R h' => ⟨_, _, _, rfl, (deepF h2).2, _, rfl, rfl, by simp, by simp, h'⟩)) (d_cons (c_neg c_int) d_nil)) (sz (by simp))) ⟨_, rfl, hR _ _ _ ?_⟩
    have hm := getD_mem (l := [.non, .int 0, .lst (l.map D.int), .tup [], .str "1", .dic [], .tup (List.replicate (Int.toNat 61) [D.int 1]).flatten, .lst [(deepF h2).1]]) (k := ((deepF h2).2.draw 8).toNat) (by simp; omega)
    refine (show ∀ x, x ∈ ([.non, .int 0, .lst (l.map D.int), .tup [], .str "1", .dic [], .tup (List.replicate (Int.toNat 61) [D.int 1]).flatten, .lst [(deepF h2).1]] : List D) → NoC aC x (-1) from fun x hx => ?_) _ hm
    simp only [List.mem_cons, List.not_mem_nil, or_false] at hx
    rcases hx with rfl | rfl | rfl | rfl | rfl | rfl | rfl | rfl <;> exact ⟨by first | rfl | decide +kernel, by first | rfl | decide +kernel⟩
  · refine css_nil ?_
    generalize hh2 : h1.next 4 = h2
    have hk : k < l.length := by omega
    obtain ⟨pv, hpv, hp0⟩ : ∃ pv : Int, atI (l.map D.int) ((k : Nat) - 1 : Int) = some (.int pv) ∧ (k ≠ 0 → pv = l.getD (k - 1) 0) := by
      by_cases e : k = 0
      · subst e
        exact ⟨_, at_last (by rw [el]; exact at_ints (lad.at (k := l.length - 1) (by omega)).1), fun z => absurd rfl z⟩
      · exact ⟨_, atI_i (k := k - 1) (by omega) (at_ints (lad.at (k := k - 1) (by omega)).1), fun _ => rfl⟩
    have hcv : atI (l.map D.int) ((k : Nat) : Int) = some (.int (l.getD k 0)) := atI_i rfl (at_ints (lad.at hk).1)
    refine css_asg 4 B (CN.ce (n_lst (d_cons c_int (d_cons (c_neg c_int) (d_cons c_non (d_cons c_bl (d_cons c_str (d_cons (c_tup (d_cons c_int d_nil) (sz (by simp))) (d_cons (c_ite (t_gt (c_ixT (c_var 1) (c_sub (c_var 2) c_int) hpv) c_int) (fun _ => (c_add (c_ixT (c_var 1) (c_var 2) hcv) c_int)) (fun _ => (c_ixT (c_var 1) (c_sub (c_var 2) c_int) hpv))) (d_cons (c_mul (c_call F_law_top (hr.mono (by decide)) (d_cons c_int d_nil) (fun R h' => ⟨_, _, rfl, ⟨rfl, rfl⟩, h'⟩)) c_int (.inr (by decide))) d_nil)))))))) (sz (by simp)))) ?_
    have hfin : ∀ x : D, plD x = true → badX (if k = 0 then none else some (l.getD (k - 1) 0)) x = true → NoC aC (.tup ((l.map D.int).set k x)) (k : Nat) := fun x h1 h2 => ⟨pl_set h1, ladRes_set lad (by omega) hk h2 aC⟩
    refine css_if (t_eqI (c_var 2) c_int) (fun hc => ?_) (fun hc => ?_)
    · have hk0 : k = 0 := by have := of_decide_eq_true hc; omega
      have b7 := Hd.draw_lt (h := h2) (many := 7) (by decide)
      refine css_ret (c_tup (d_cons ((c_catT (c_tup (d_cons (c_callM 0 F_law_any (hr.mono (by decide)) rfl (d_cons (CN.ce (n_catL (CN.ce (n_slL (c_var 4) o_none (o_some c_int))) (CN.ce (n_lst (d_cons c_int d_nil) (sz (by simp)))) (sz (by rw [show (6 : Int) = ((6 : Nat) : Int) from rfl, cutD_take]; simp)))) d_nil) rfl (fun R h' => ⟨_, _, _, rfl, h2, _, rfl, rfl, by simp, by rw [show (6 : Int) = ((6 : Nat) : Int) from rfl, cutD_take]; simp, h'⟩)) d_nil) (sz (by simp))) (c_slT (c_var 1) (o_some c_int) o_none) (sz (by rw [show (1 : Int) = ((1 : Nat) : Int) from rfl, cutD_drop, List.length_drop, el]; simp; omega)))) (d_cons c_int d_nil)) (sz (by simp))) ⟨_, rfl, ?_⟩
      subst hk0
      obtain ⟨c0, cs0, rfl⟩ : ∃ c cs, l = c :: cs := List.exists_cons_of_length_pos (by omega)
      rw [show (6 : Int) = ((6 : Nat) : Int) from rfl, cutD_take, show (1 : Int) = ((1 : Nat) : Int) from rfl, cutD_drop]
      have hm := getD_mem (l := [.int 0, .int (-1), .non, .bl true, .str "1", .tup [.int 1], .int 2]) (k := (h2.draw 7).toNat) (by simp; omega)
      have hx : ∀ x, x ∈ ([.int 0, .int (-1), .non, .bl true, .str "1", .tup [.int 1], .int 2] : List D) → plD x = true ∧ badX none x = true := fun x hx => by
        simp only [List.mem_cons, List.not_mem_nil, or_false] at hx
        rcases hx with rfl | rfl | rfl | rfl | rfl | rfl | rfl <;> exact ⟨rfl, by first | rfl | decide +kernel⟩
      exact hR _ 0 _ (hfin _ (hx _ hm).1 (hx _ hm).2)
    · have hk0 : k ≠ 0 := by have := of_decide_eq_false hc; omega
      have hp := hp0 hk0
      refine css_nil ?_
      have b9 := Hd.draw_lt (h := h2) (many := 9) (by decide)
      have hu := lad.up (k - 1) (by omega)
      rw [show k - 1 + 1 = k by omega] at hu
      have hpos := (lad.at (k := k - 1) (by omega)).2
      refine css_ret (c_tup (d_cons (c_catT (c_catT (c_slT (c_var 1) o_none (o_some (c_var 2))) (c_tup (d_cons (c_callM 0 F_law_any (hr.mono (by decide)) rfl (d_cons (CN.ce (n_catL (c_var 4) (CN.ce (n_lst (d_cons (c_ixT (c_var 1) (c_sub (c_var 2) c_int) hpv) d_nil) (sz (by simp)))) (sz (by simp)))) d_nil) rfl (fun R h' => ⟨_, _, _, rfl, h2, _, rfl, rfl, by simp, by simp, h'⟩)) d_nil) (sz (by simp))) (sz (by rw [cutD_take, List.length_take]; simp; omega))) (c_slT (c_var 1) (o_some (c_add (c_var 2) c_int)) o_none)
        (sz (by rw [cutD_take, show ((k : Nat) : Int) + 1 = ((k + 1 : Nat) : Int) from rfl, cutD_drop, List.length_append, List.length_take, List.length_drop, el]; simp; omega))) (d_cons (c_var 2) d_nil)) (sz (by simp))) ⟨_, rfl, ?_⟩
      rw [cutD_take, show ((k : Nat) : Int) + 1 = ((k + 1 : Nat) : Int) from rfl, cutD_drop, List.append_assoc]
      have hm := getD_mem (l := [.int 0, .int (-1), .non, .bl true, .str "1", .tup [.int 1], if decide (1 < pv) = true then .int (l.getD k 0 + 1) else .int pv, .int (MC * 10), .int pv]) (k := (h2.draw 9).toNat) (by simp; omega)
      have hx : ∀ x, x ∈ ([.int 0, .int (-1), .non, .bl true, .str "1", .tup [.int 1], if decide (1 < pv) = true then .int (l.getD k 0 + 1) else .int pv, .int (MC * 10), .int pv] : List D) → plD x = true ∧ badX (some pv) x = true := fun x hx => by
        have bp : badX (some pv) (.int pv) = true := by
          unfold badX
          rw [Bool.not_eq_true', Bool.and_eq_false_iff]
          right
          rw [Bool.and_eq_false_iff]
          left
          exact decide_eq_false (by omega)
        simp only [List.mem_cons, List.not_mem_nil, or_false] at hx
        rcases hx with rfl | rfl | rfl | rfl | rfl | rfl | rfl | rfl | rfl
        · exact ⟨rfl, rfl⟩
        · exact ⟨rfl, rfl⟩
        · exact ⟨rfl, rfl⟩
        · exact ⟨rfl, rfl⟩
        · exact ⟨rfl, rfl⟩
        · exact ⟨rfl, rfl⟩
        · by_cases h1 : 1 < pv
          · rw [if_pos (decide_eq_true h1)]
            refine ⟨rfl, ?_⟩
            unfold badX
            rw [Bool.not_eq_true', Bool.and_eq_false_iff]
            right
            rw [Bool.and_eq_false_iff]
            right
            refine decide_eq_false ?_
            rw [hp, Int.add_emod, hu.2, Int.zero_add, Int.emod_emod, Int.emod_eq_of_lt (by decide) (by omega)]
            decide
          · rw [if_neg (by simpa using h1)]
            exact ⟨rfl, bp⟩
        · refine ⟨rfl, ?_⟩
          unfold badX
          rw [Bool.not_eq_true', Bool.and_eq_false_iff, Bool.and_eq_false_iff]
          left; right
          refine decide_eq_false ?_
          unfold MC; decide +kernel
        · exact ⟨rfl, bp⟩
      have hset : ∀ x : D, (l.map D.int).set k x = (l.map D.int).take k ++ ([x] ++ (l.map D.int).drop (k + 1)) := fun x => List.set_eq_take_append_cons_drop.trans (if_pos (by rw [el]; exact hk))
      have := hR _ (k : Nat) (h2.next 9) (hfin _ (hx _ hm).1 (by rw [if_neg hk0, ← hp]; exact (hx _ hm).2))
      rw [hset] at this
      exact this
end
end K88
end

section
set_option Elab.async false
set_option linter.all false
set_option maxRecDepth 100000
set_option maxHeartbeats 4000000
namespace K88
open PySem PySem.Spec PyProof.Rows L2 VL
abbrev s_law_is_small_right : Stmt := topS 30
abbrev N_small : List Str := ["hand", "coins", "bound", "table", "some", "turn", "number"]
theorem sc_law_is_small_right : FnScope N_small ["hand", "coins"] (defScope s_law_is_small_right) := ⟨rfl, rfl, rfl, by decide +kernel, rfl, by decide +kernel, by decide +kernel⟩
abbrev s_law_is_great_right : Stmt := topS 31
abbrev N_great : List Str := ["hand", "coins", "number", "due", "rest", "less", "more"]
theorem sc_law_is_great_right : FnScope N_great ["hand", "coins"] (defScope s_law_is_great_right) := ⟨rfl, rfl, rfl, by decide +kernel, rfl, by decide +kernel, by decide +kernel⟩
/-- what hand and coins come to -/
def A_right (cs ds : List D) (R : Res → List D → Prop) : Prop := ∃ (h : Hd) (l : List Int), cs = h.ds ∧ ds = [.tup (l.map D.int)] ∧ Lad l ∧ l.length ≤ 8 ∧ ∀ h' : Hd, R (.ok (.bl true)) h'.ds
theorem ways_ok {cs : List Int} (l : Lad cs) (h : cs.length ≤ 60) {n : Int} (h0 : 0 ≤ n) (h1 : n ≤ 10 ^ 30) (aC aN : Addr) : waysRes aC aN (.tup (cs.map D.int)) (.int n) = .ok (.int (waysD cs n)) := by
  unfold waysRes
  rw [lad_bad l h aC]
  have hw : within (.int n) 0 (10 ^ 30) = true := by
    show (decide (0 ≤ n) && decide (n ≤ 10 ^ 30)) = true
    rw [decide_eq_true h0, decide_eq_true h1]
    rfl
  simp only [if_pos hw]
  show Except.ok (D.int (waysD (intsD (cs.map D.int)) n)) = _
  rw [intsD_map]
theorem plT_ints (cs : List Int) : plT (.tup (cs.map D.int)) = true := by
  unfold plT
  rw [List.all_eq_true]
  intro d hd
  obtain ⟨c, _, rfl⟩ := List.mem_map.mp hd
  rfl
theorem A_ways_ok {cs : List Int} (l : Lad cs) (h : cs.length ≤ 10) {n : Int} (h0 : 0 ≤ n) (h1 : n ≤ 10 ^ 30) (aC aN : Addr) : A_ways aC aN [.tup (cs.map D.int), .int n] (.ok (.int (waysD cs n))) :=
  ⟨_, _, rfl, plT_ints cs, rfl, fun cs' e _ _ => by
    have e2 := congrArg (fun d => match d with | D.tup l => l.length | _ => 0) e
    simp only [List.length_map] at e2
    omega, (ways_ok l (by omega) h0 h1 aC aN).symm⟩
/-- the draws of a comprehension -/
def drawsOf (h : Hd) (m : Int) : Nat → List Int × Hd
  | 0 => ([], h)
  | n + 1 => let p := drawsOf h m n; (p.1 ++ [p.2.draw m], p.2.next m)
theorem drawsOf_len (h : Hd) (m : Int) : ∀ n, (drawsOf h m n).1.length = n
  | 0 => rfl
  | n + 1 => by
    show ((drawsOf h m n).1 ++ [_]).length = _
    rw [List.length_append, drawsOf_len h m n]; rfl
theorem drawsOf_in (h : Hd) {m : Int} (hm : 0 < m) : ∀ n, ∀ x ∈ (drawsOf h m n).1, 0 ≤ x ∧ x < m
  | 0, x, hx => by cases hx
  | n + 1, x, hx => by
    rcases List.mem_append.mp (show x ∈ (drawsOf h m n).1 ++ [(drawsOf h m n).2.draw m] from hx) with hx | hx
    · exact drawsOf_in h hm n x hx
    · rw [List.mem_singleton] at hx
      subst hx
      exact Hd.draw_lt hm
section
variable {P : Program} {w : World} {K : PySem.W.Frag} {mg : Str → Option Value} {base : Heap} {f aC aN : Addr} {fd : FuncData}
theorem ok_law_is_small_right (T : Blt mg) (F_law_draw : FnV P w K mg base 1 "_law_draw" (mutS A_law_draw)) (F_law_ways : FnV P w K mg base 1 "_law_ways" (detS A_law_ways)) (F_law_is : FnV P w K mg base 1 "_law_is" (detS A_law_is1)) (F_ways_digits : FnV P w K mg base 4 "ways_digits" (detS (A_ways aC aN)))
    (Fu : Fun K "_law_is_small_right" "_law_is_small_right" s_law_is_small_right f fd) (hb : Binds K fd ["hand", "coins"] []) (hm : mg "_law_is_small_right" = some (.ref f)) : FnV P w K mg base 5 "_law_is_small_right" (mutS A_right) := by
  refine fn_mut (k := 4) (fun cs ds R R' h ⟨hd, l, a, b, c, d, r⟩ => ⟨hd, l, a, b, c, d, fun h' => h _ _ (r h')⟩) Fu sc_law_is_small_right hb hm (fun cs ds R ⟨hd, l, a, b, _⟩ => by subst b; rfl) fun cdv A' outer s H E hr B q cs ds R ⟨h, l, e1, e2, lad, hl8, hR⟩ => ?_
  subst e1 e2
  have b2 := Hd.draw_lt (h := h) (many := 200) (by decide)
  obtain ⟨b, hb0⟩ := nat_of (n := 20 + h.draw 200) (by omega)
  refine css_asg 2 B ((c_add c_int (c_callM 0 F_law_draw (hr.mono (by decide)) rfl (d_cons c_int d_nil) rfl (fun R h' => ⟨_, _, _, rfl, h, 200, rfl, rfl, by decide, by decide, h'⟩))).eq (by rw [hb0])) ?_
  generalize h.next 200 = h2
  refine css_asg 3 B (c_call F_law_ways (hr.mono (by decide)) (d_cons (c_var 1) (d_cons (c_var 2) d_nil)) (fun R h' => ⟨_, _, rfl, ⟨l, b, rfl, lad, by omega, by omega, rfl⟩, h'⟩)) ?_
  have hlen : (drawsOf h2 ((b : Nat) + 1) 8).1.length = 8 := drawsOf_len _ _ _
  refine css_asg 4 B (d := .lst (([0, 1, (b : Int)] ++ (drawsOf h2 ((b : Nat) + 1) 8).1).map D.int)) ((CN.ce (n_catL (CN.ce (n_lst (d_cons c_int (d_cons c_int (d_cons (c_var 2) d_nil))) (sz (by simp)))) (CN.ce (l_lcG (es' := (drawsOf h2 ((b : Nat) + 1) 8).1.map D.int) (ρ' := [.mut q (drawsOf h2 ((b : Nat) + 1) 8).2.ds, .dat (.tup (l.map D.int)), .dat (.int (b : Nat)), .dat (.lst ((List.range (b + 1)).map fun n => .int (waysD l (n : Nat)))), .un, .un, .un]) (T := .nm 5) (tt := tYes)
      (fun i ρi acc => ρi = [.mut q (drawsOf h2 ((b : Nat) + 1) i).2.ds, .dat (.tup (l.map D.int)), .dat (.int (b : Nat)), .dat (.lst ((List.range (b + 1)).map fun n => .int (waysD l (n : Nat)))), .un, .un, .un] ∧ acc = (drawsOf h2 ((b : Nat) + 1) i).1.map D.int)
      B.calm B.nd (ci_range1 T.range c_int (by decide)) (blkOk_by (N := N_small) (sc := defScope s_law_is_small_right) (own := [("turn", 5)]) (by decide +kernel)) (fun _ _ _ _ _ => tg_nm 5 B.nd) (fun _ _ _ _ _ => pts_nil) (by decide) (fun k p ds hk h => ?_) ⟨rfl, rfl⟩ (fun i d ρi acc hd lk hJ => ?_) (fun ρn acc lk hJ => ?_) (owns_setM (ρ := [.mut q h2.ds, .dat (.tup (l.map D.int)), .dat (.int (b : Nat)), .dat (.lst ((List.range (b + 1)).map fun n => .int (waysD l (n : Nat)))), .un, .un, .un]) (i := 0) rfl)).cn) (sz (by simp [drawsOf_len])))).eq (by rw [List.map_append]; rfl)) ?_
  · simp at hk; subst hk; cases h
  · obtain ⟨hi, rfl⟩ := rangeD_inv hd
    obtain ⟨rfl, rfl⟩ := hJ
    refine ⟨_, true, _, .nm, ⟨rfl, fun F O σ H Q I q => q H I⟩, fun _ => ?_, fun h => Bool.noConfusion h⟩
    refine ⟨.int ((drawsOf h2 ((b : Nat) + 1) i).2.draw ((b : Nat) + 1)), _, [.mut q (drawsOf h2 ((b : Nat) + 1) (i + 1)).2.ds, .dat (.tup (l.map D.int)), .dat (.int (b : Nat)), .dat (.lst ((List.range (b + 1)).map fun n => .int (waysD l (n : Nat)))), .un, .un, .un],
      ev_twB (fun _ _ _ _ _ => c_callM 0 F_law_draw (hr.mono (by decide)) rfl (d_cons (c_add (c_var 2) c_int) d_nil) rfl (fun R h' => ⟨_, _, _, rfl, (drawsOf h2 ((b : Nat) + 1) i).2, (b : Nat) + 1, rfl, rfl, by omega, by omega, h'⟩)) ?_, rfl, ?_, ?_, rfl, ?_⟩
    · exact owns_setM rfl
    · intro k p es hk
      rcases k with _ | _ | _ | _ | _ | _ | _ | k
      · exact hk
      all_goals cases hk
    · rw [List.length_map, drawsOf_len]
      have : i < 8 := hi
      exact szl (by omega)
    · rw [← List.map_singleton, ← List.map_append]; rfl
  · obtain ⟨h1, h2⟩ := hJ
    rw [rangeD_len] at h1 h2
    exact ⟨h1, h2⟩
  have hin : ∀ n ∈ [0, 1, (b : Int)] ++ (drawsOf h2 ((b : Nat) + 1) 8).1, 0 ≤ n ∧ n ≤ (b : Int) := fun n hn => by
    rcases List.mem_append.mp hn with hn | hn
    · simp only [List.mem_cons, List.not_mem_nil, or_false] at hn
      rcases hn with rfl | rfl | rfl <;> omega
    · have := drawsOf_in h2 (m := (b : Nat) + 1) (by omega) 8 n hn
      omega
  generalize hsome : [0, 1, (b : Int)] ++ (drawsOf h2 ((b : Nat) + 1) 8).1 = some_ at hin
  have hsl : some_.length = 11 := by rw [← hsome, List.length_append, hlen]; rfl
  refine css_ret (c_allL B.calm T.all (bs := List.replicate some_.length true) ((CN.ce (n_lc0 (T := .nm 6) (fun _ => .bl true) (ci_list (c_var 4)) [("number", 6)] B (blkOk_by (N := N_small) (sc := defScope s_law_is_small_right) (by decide +kernel)) (fun _ _ _ _ _ => tg_nm 6 B.nd) (by decide) (fun k p ds hk h => ?_) (fun i d hd => ?_) ?_)).eq ?_)) ⟨_, rfl, ?_⟩
  · simp at hk; subst hk; cases h
  · obtain ⟨n, hn, rfl⟩ := List.mem_map.mp (List.mem_of_getElem? hd)
    obtain ⟨n0, n1⟩ := hin n hn
    obtain ⟨m, rfl⟩ := nat_of n0
    have ht : atI ((List.range (b + 1)).map fun n => D.int (waysD l (n : Nat))) (m : Int) = some (.int (waysD l (m : Nat))) := atI_i rfl (by rw [List.getElem?_map, List.getElem?_range (by omega)]; rfl)
    have m30 : (1000 : Int) ≤ 10 ^ 30 := by decide
    refine ⟨_, .nm, fun k p es hk => ?_, fun _ _ _ _ _ => c_call (d := .bl true) F_law_is (hr.mono (by decide)) (d_cons (c_call F_ways_digits (hr.mono (by decide)) (d_cons (c_var 1) (d_cons (c_var 6) d_nil)) (fun R h => ⟨_, _, rfl, A_ways_ok lad (by omega) n0 (by omega) aC aN, h⟩)) (d_cons (c_ixL (c_var 3) (c_var 6) ht) d_nil)) (fun R h => ⟨_, _, rfl, ⟨_, _, rfl, by rw [decide_eq_true rfl]⟩, h⟩)⟩
    rcases k with _ | _ | _ | _ | _ | _ | _ | k
    · exact hk
    all_goals cases hk
  · rw [List.length_map, hsl]; exact szl (by decide)
  · rw [List.map_replicate, List.map_const', List.length_map]
  · have : (List.replicate some_.length true).all id = true := by rw [List.all_eq_true]; intro b hb; rw [List.eq_of_mem_replicate hb]; rfl
    rw [this]
    exact hR _
end
end K88
end

section
set_option Elab.async false
set_option linter.all false
set_option maxRecDepth 100000
set_option maxHeartbeats 4000000
namespace K88
open PySem PySem.Spec PyProof.Rows L2 VL
theorem cutD_neg1 (xs : List D) : VL.cutD xs none (some (-1)) = xs.take (xs.length - 1) := by
  have e : HT.sIx xs.length xs.length (some (-1)) = xs.length - 1 := by
    show (if (-1 : Int) < 0 then ((-1 : Int) + (xs.length : Int)).toNat else min (-1 : Int).toNat xs.length) = _
    rw [if_pos (by decide)]
    omega
  unfold VL.cutD
  rw [HT.sIx_none, List.drop_zero, Nat.sub_zero, e]
section
variable {P : Program} {w : World} {K : PySem.W.Frag} {mg : Str → Option Value} {base : Heap} {f aC aN : Addr} {fd : FuncData}
theorem ok_law_is_great_right (T : Blt mg) (F_law_number : FnV P w K mg base 3 "_law_number" (mutS A_law_number)) (F_law_of_three : FnV P w K mg base 1 "_law_of_three" (detS A_law_of_three)) (F_law_top : FnV P w K mg base 1 "_law_top" (detS A_law_top)) (F_law_is : FnV P w K mg base 1 "_law_is" (detS A_law_is1))
    (F_ways_digits : FnV P w K mg base 4 "ways_digits" (detS (A_ways aC aN))) (F_digits : FnV P w K mg base 4 "digits" (detS A_digits))
    (Fu : Fun K "_law_is_great_right" "_law_is_great_right" s_law_is_great_right f fd) (hb : Binds K fd ["hand", "coins"] []) (hm : mg "_law_is_great_right" = some (.ref f)) : FnV P w K mg base 5 "_law_is_great_right" (mutS A_right) := by
  refine fn_mut (k := 4) (fun cs ds R R' h ⟨hd, l, a, b, c, d, r⟩ => ⟨hd, l, a, b, c, d, fun h' => h _ _ (r h')⟩) Fu sc_law_is_great_right hb hm (fun cs ds R ⟨hd, l, a, b, _⟩ => by subst b; rfl) fun cdv A' outer s H E hr B q cs ds R ⟨h, l, e1, e2, lad, hl8, hR⟩ => ?_
  subst e1 e2
  have el : (l.map D.int).length = l.length := List.length_map _
  have hne := lad.ne
  refine css_asgD 2 B (q_hand 0 F_law_number (hr.mono (by decide)) rfl d_nil rfl ⟨q, h.ds, [], rfl, h, rfl, rfl, fun n h' n0 n1 => ⟨_, _, rfl, rfl, ?_⟩⟩)
  have ways : ∀ {X : Cx} {ρ ρ1 : Lo} {e1 : Expr} {es : List Expr} {pos p : Pos} {cs : List Int} {m : Int}, X.prog = P → X.w = w → X.K = K → X.mg = mg → X.base = base → True := fun _ _ _ _ _ => trivial
  have three : (l.take 3).length ≤ 3 := by rw [List.length_take]; omega
  have lad3 : Lad (l.take 3) := by
    by_cases h3 : l.length ≤ 3
    · rw [List.take_of_length_le h3]; exact lad
    · exact lad.take (by decide) (by omega)
  have e3 : cutD (l.map D.int) none (some 3) = (l.take 3).map D.int := by rw [show (3 : Int) = ((3 : Nat) : Int) from rfl, cutD_take, List.map_take]
  obtain ⟨g1, g2, g3⟩ := lad.at (k := l.length - 1) (by omega)
  have hlast : atI (l.map D.int) (-1) = some (.int (l.getD (l.length - 1) 0)) := at_last (by rw [el]; exact at_ints g1)
  generalize hlv : l.getD (l.length - 1) 0 = lv at hlast g2 g3
  refine css_asg 3 B (c_call F_ways_digits (hr.mono (by decide)) (d_cons (c_var 1) (d_cons (c_var 2) d_nil)) (fun R h => ⟨_, _, rfl, A_ways_ok lad (by omega) n0 n1 aC aN, h⟩)) ?_
  have hpos := ways_pos lad n0
  refine css_if (t_w (w_or (t_not (t_val (c_isi T.isinstance (c_var 3) (c_bty "int" T.int) rfl rfl))) (fun _ => (w_or (t_lt (c_var 3) c_int) (fun _ => (w_or1 (t_not (t_val (c_call F_law_is (hr.mono (by decide)) (d_cons (c_call F_ways_digits (hr.mono (by decide)) (d_cons (c_var 1) (d_cons (c_var 2) d_nil)) (fun R h => ⟨_, _, rfl, A_ways_ok lad (by omega) n0 n1 aC aN, h⟩)) (d_cons (c_var 3) d_nil)) (fun R h => ⟨_, _, rfl, ⟨_, _, rfl, rfl⟩, h⟩)))))))))) (fun hc => ?_) (fun hc => ?_)
  · exfalso
    have h1 : decide (waysD l n < 1) = false := decide_eq_false (by omega)
    rw [h1, decide_eq_true rfl] at hc
    cases hc
  refine css_nil ?_
  refine css_if (t_w (w_and (t_lt (c_lenT T.len (c_var 1)) c_int) (fun hk => (w_and1 (t_neI (c_var 3) (c_call F_law_of_three (hr.mono (by decide)) (d_cons (c_var 1) (d_cons (c_var 2) d_nil)) (fun R h => ⟨_, _, rfl, ⟨l, n, rfl, lad, ?_, n0, n1, rfl⟩, h⟩))))))) (fun hc => ?_) (fun hc => ?_)
  · rw [el] at hk
    have := of_decide_eq_true hk
    omega
  · exfalso
    obtain ⟨c1, c2⟩ := Bool.and_eq_true_iff.mp hc
    rw [el] at c1
    have c1 := of_decide_eq_true c1
    rw [ways_three lad (by omega) n0, decide_eq_true rfl] at c2
    cases c2
  refine css_nil ?_
  refine css_if (t_not (t_val (c_call F_law_is (hr.mono (by decide)) (d_cons (c_call F_ways_digits (hr.mono (by decide)) (d_cons ((c_slT (c_var 1) o_none (o_some c_int)).eq (by rw [e3])) (d_cons (c_var 2) d_nil)) (fun R h => ⟨_, _, rfl, A_ways_ok lad3 (by omega) n0 n1 aC aN, h⟩)) (d_cons (c_call F_law_of_three (hr.mono (by decide)) (d_cons ((c_slT (c_var 1) o_none (o_some c_int)).eq (by rw [e3])) (d_cons (c_var 2) d_nil)) (fun R h => ⟨_, _, rfl, ⟨l.take 3, n, rfl, lad3, three, n0, n1, rfl⟩, h⟩)) d_nil)) (fun R h => ⟨_, _, rfl, ⟨_, _, rfl, rfl⟩, h⟩)))) (fun hc => ?_) (fun hc => ?_)
  · exfalso
    rw [ways_three lad3 three n0, decide_eq_true rfl] at hc
    cases hc
  refine css_nil ?_
  -- more
  have tail : ∀ a b : Sl, CSs (cx P w K mg base N_great "_law_is_great_right" s_law_is_great_right f cdv A' outer s H E) [.mut q h'.ds, .dat (.tup (l.map D.int)), .dat (.int n), .dat (.int (waysD l n)), a, b, .un] ((defBody s_law_is_great_right).drop 6)
      { nx := fun ρ' => ∃ cs', ρ'[0]? = some (.mut q cs') ∧ R (.ok .non) cs', rt := fun d ρ' => ∃ cs', ρ'[0]? = some (.mut q cs') ∧ R (.ok d) cs', er := fun e ρ' => ∃ cs', ρ'[0]? = some (.mut q cs') ∧ R (.error e) cs' } := fun a b => by
    have hd0 : 0 ≤ n / lv := Int.ediv_nonneg n0 (by omega)
    have hd1 : n / lv ≤ n := Int.ediv_le_self _ n0
    have m30 : (10 : Int) ^ 30 < 2 ^ 100 := by decide
    have hmul : CMulW lv (n / lv + 2) := by
      have l1 : Lt2 333 lv := Nat.lt_of_le_of_lt (by omega) mc_bits
      have l2 : Lt2 101 (n / lv + 2) := by
        unfold Lt2
        have : (2 : Int) ^ 101 = 2 ^ 100 * 2 := by decide
        omega
      have a1 := l1.log
      have a2 := l2.log
      unfold CMulW; omega
    have hcn : n < lv * (n / lv + 2) := by
      have h1 := Int.emod_add_mul_ediv n lv
      have h2 := Int.emod_lt_of_pos n (show 0 < lv by omega)
      rw [Int.mul_add]
      omega
    have hlt : lv < lv * (n / lv + 2) := by
      have : lv * 2 ≤ lv * (n / lv + 2) := Int.mul_le_mul_of_nonneg_left (by omega) (by omega)
      omega
    generalize hc : lv * (n / lv + 2) = c at hcn hlt
    have hcm : c % lv = 0 := by rw [← hc]; exact Int.mul_emod_right _ _
    refine css_asg 6 B ((c_catT (c_var 1) (c_tup (d_cons (c_mulW (c_ixT (c_var 1) (c_neg c_int) hlast) (c_add (c_divW (c_var 2) (c_ixT (c_var 1) (c_neg c_int) hlast) (dv_of ⟨g2, g3⟩)) c_int) hmul) d_nil) (sz (by simp))) (sz (by rw [el]; simp; omega))).eq (y := .tup ((l ++ [c]).map D.int)) (by rw [hc, List.map_append]; rfl)) ?_
    have hml : atI ((l ++ [c]).map D.int) (-1) = some (.int c) := at_last (by
      refine at_ints ?_
      rw [List.length_map, List.length_append]
      show (l ++ [c])[l.length + 1 - 1]? = _
      rw [Nat.add_sub_cancel, List.getElem?_append_right (Nat.le_refl _), Nat.sub_self]
      rfl)
    refine css_ret (d := .bl true) ((c_or (c_gt (c_ixT (c_var 6) (c_neg c_int) hml) (c_call F_law_top (hr.mono (by decide)) (d_cons c_int d_nil) (fun R h => ⟨_, _, rfl, ⟨rfl, rfl⟩, h⟩))) (fun hk => (c_or (l := decide (waysD (l ++ [c]) n = waysD l n)) (c_le (c_ixT (c_var 6) (c_neg c_int) hml) (c_var 2)) (fun _ => (c_one (c_eqI (c_call F_ways_digits (hr.mono (by decide)) (d_cons (c_var 6) (d_cons (c_var 2) d_nil)) (fun R h => ⟨_, _, rfl, A_ways_ok (lad.push (by rw [hlv]; exact hlt) (by rw [hlv]; exact hcm) ?_) (by rw [List.length_append]; simp; omega) n0 n1 aC aN, h⟩)) (c_var 3))))))).eq ?_) ⟨_, rfl, hR h'⟩
    · have := of_decide_eq_false hk
      omega
    · congr 1
      cases hk : decide (MC < c) with
      | true => rfl
      | false =>
        have := of_decide_eq_false hk
        rw [ways_more lad (lad.push (by rw [hlv]; exact hlt) (by rw [hlv]; exact hcm) (by omega)) n0 hcn, decide_eq_true rfl, Bool.or_true, Bool.or_true]
  refine css_if (t_gt (c_lenT T.len (c_var 1)) c_int) (fun hc => ?_) (fun hc => css_nil (tail _ _))
  have h2 : 2 ≤ l.length := by
    rw [el] at hc
    have := of_decide_eq_true hc
    omega
  have ladT : Lad (l.take (l.length - 1)) := lad.take (by omega) (by omega)
  have et : cutD (l.map D.int) none (some (-1)) = (l.take (l.length - 1)).map D.int := by rw [cutD_neg1, el, List.map_take]
  refine css_asg 4 B (c_call F_ways_digits (hr.mono (by decide)) (d_cons ((c_slT (c_var 1) o_none (o_some (c_neg c_int))).eq (by rw [et])) (d_cons (c_var 2) d_nil)) (fun R h => ⟨_, _, rfl, A_ways_ok ladT (by rw [List.length_take]; omega) n0 n1 aC aN, h⟩)) ?_
  refine css_asg 5 B (d := .int (if lv ≤ n then waysD l (n - lv) else 0)) (c_if (t_ge (c_var 2) (c_ixT (c_var 1) (c_neg c_int) hlast)) (fun hk => (c_call F_ways_digits (hr.mono (by decide)) (d_cons (c_var 1) (d_cons (c_sub (c_var 2) (c_ixT (c_var 1) (c_neg c_int) hlast)) d_nil)) (fun R h => ⟨_, _, rfl, ?_, h⟩))) (fun hk => c_int.eq ?_)) ?_
  · have hk := of_decide_eq_true hk
    rw [if_pos hk]
    exact A_ways_ok lad (by omega) (by omega) (by omega) aC aN
  · have hk := of_decide_eq_false hk
    rw [if_neg hk]
  refine css_if (t_neI (c_var 3) (c_add (c_var 4) (c_var 5))) (fun hc => ?_) (fun hc => ?_)
  · exfalso
    have hw := ways_last lad h2 n0
    rw [hlv] at hw
    rw [← hw, decide_eq_true rfl] at hc
    cases hc
  refine css_nil ?_
  obtain ⟨w1, w2, w3⟩ := ways_first lad h2 n0
  have hdl : atI ((digitsOf l n).map D.int) 0 = some (.int ((digitsOf l n).getD 0 0)) := atI_i (k := 0) rfl (at_ints (by
    rw [List.getD_eq_getElem?_getD, List.getElem?_eq_getElem (by rw [digitsOf_len]; omega)]; rfl))
  have mm : (10 : Int) ^ 30 ≤ MC * MC := by unfold MC; decide +kernel
  refine css_if (t_neI (c_var 3) (c_call F_ways_digits (hr.mono (by decide)) (d_cons (c_var 1) (d_cons (c_sub (c_var 2) (c_ixT (c_call F_digits (hr.mono (by decide)) (d_cons (c_var 1) (d_cons (c_var 2) d_nil)) (fun R h => ⟨_, _, rfl, ⟨l, n, rfl, lad, by omega, n0, by omega, rfl⟩, h⟩)) c_int hdl)) d_nil)) (fun R h => ⟨_, _, rfl, A_ways_ok lad (by omega) w2 (by omega) aC aN, h⟩))) (fun hc => ?_) (fun hc => ?_)
  · exfalso
    rw [← w1, decide_eq_true rfl] at hc
    cases hc
  exact css_nil (css_nil (tail _ _))
end
end K88
end

section
set_option Elab.async false
set_option linter.all false
set_option maxRecDepth 100000
set_option maxHeartbeats 4000000
namespace K88
open PySem PySem.Spec PyProof.Rows L2 VL VLH LamX
abbrev s_law_are_refused : Stmt := topS 32
abbrev N_refused : List Str := ["hand", "coins", "none", "at", "odd", "heard"]
theorem sc_law_are_refused : FnScope N_refused ["hand", "coins"] (defScope s_law_are_refused) := ⟨rfl, rfl, rfl, by decide +kernel, rfl, by decide +kernel, by decide +kernel⟩
/-- the word of a result -/
inductive Worded (aC aN : Addr) : Res → D → Prop
  | ok {d : D} : immut d = true → Worded aC aN (.ok d) (.str "let")
  | coins {a : Int} : Worded aC aN (.error ⟨aC, [("at", .int a)]⟩) (.tup [.str "coins", .int a])
  | number : Worded aC aN (.error ⟨aN, []⟩) (.str "number")
section
variable {P : Program} {w : World} {K : PySem.W.Frag} {mg : Str → Option Value} {base : Heap} {f g aB aC aN c Pt : Addr} {fd fdw : FuncData}
/-- _law_word(lambda: ..) in _law_are_refused -/
theorem c_word (T : Wt K mg aB aC aN) (Fw : Fun K "_law_word" "_law_word" s_law_word g fdw) (hbw : Binds K fdw ["call"] []) (hmw : mg "_law_word" = some (.ref g)) (TBx : TabB base mg c Pt) (hP : (Pt, ("_law_are_refused.<locals>.<lambda>" : Str)) ∈ lamT) (hu : ∀ p ∈ lamT, p.1 = Pt → p.2 = ("_law_are_refused.<locals>.<lambda>" : Str))
    {cdv : Value} (hcd : cdv = .ref c) {A' : Around} {outer : List Env} {s : Shared} {H : Hp} {E : XK} {ρ : Lo} {params : Arguments} {body : Expr} {scope : Scope} {p lpos pos : Pos} {r0 : Res} {dW : VL.D} (hw : Worded aC aN r0 dW) (hr : Room 6 (cx P w K mg base N_refused "_law_are_refused" s_law_are_refused f cdv A' outer s H E).A)
    (hbody : ∀ (A : Around) (outer' : List Env) (s' : Shared) (H' : Hp) (E' : XK) (f' c' : Addr), Room 4 (A.deeper (lamEnv (cx P w K mg base N_refused "_law_are_refused" s_law_are_refused f cdv A' outer s H E) scope s'.heap.objs.size f' c')) → CQ (lamCxN (cx P w K mg base N_refused "_law_are_refused" s_law_are_refused f cdv A' outer s H E) A outer' s' H' E' scope f' c') (frz ρ) body fun r ρ' => r = r0 ∧ ρ' = frz ρ)
    (L : LamS (defScope s_law_are_refused) scope) (hdef : ∀ env, defaultsOf params env = ([], [])) (hbind : ∀ (q : Str) (cl : List (Str × Addr)) (pm cv ctv : Value), bindArgs (PySem.W.kla_fn "<lambda>" q params body scope cl pm cv ctv) ⟨[], []⟩ = pure []) :
    CE (cx P w K mg base N_refused "_law_are_refused" s_law_are_refused f cdv A' outer s H E) ρ (.Call (.Name "_law_word" p) [.Lambda params body scope lpos] [] pos) dW ρ := by
  obtain ⟨oc, od, kV, doc, pm, an, cdw, ct, osl, efd, lk, hcg⟩ := Fw.ex
  subst efd
  refine c_lamcall (X := cx P w K mg base N_refused "_law_are_refused" s_law_are_refused f cdv A' outer s H E) (r0 := r0) (k := 4) (a := "call") (Ng := N_law_word) (c := c) (P := Pt) ?_ ?_ hmw Fw.kp lk hcg hbw sc_law_word rfl (.inl rfl) ?_ TBx hcd hP hu hr hbody L (hdef _) hbind
  · cases hw with
    | ok h => exact h
    | coins => rfl
    | number => rfl
  · cases hw <;> rfl
  · have nd : ∀ er, r0 = .error er → PySem.W.exmOne K (.ref er.C) (.ref aB) = some true := fun er e => by
      cases hw with
      | ok h => cases e
      | coins => cases e; exact T.xC
      | number => cases e; exact T.xN
    refine word_gives (X := cx P w K mg base N_refused "_law_are_refused" s_law_are_refused f cdv A' outer s H E) (Ng := N_law_word) (x := "_law_word") (a := "call") (e := "CoinError") (n := "error") (ret := "let") (iE := 1) (CS := aB) rfl T.ce (by decide) (fun _ => rfl) sc_law_word.nd rfl rfl (fun d e => ?_) (fun er e => ⟨nd er e, fun s2 H2 aE oe dd pn hz hf hdd => ?_⟩)
    · cases hw with
      | ok h => rfl
      | coins => cases e
      | number => cases e
    · cases hw with
      | ok h => cases e
      | @coins a =>
        cases e
        refine suite_ok (g := g) (cdg := cdw) (A := (cx P w K mg base N_refused "_law_are_refused" s_law_are_refused f cdv A' outer s H E).A) (outer := (cx P w K mg base N_refused "_law_are_refused" s_law_are_refused f cdv A' outer s H E).stack) (s := s2) (H := H2) T hz hf T.eC T.kCC T.kCN T.vC (.inl ⟨rfl, rfl, rfl, .int a, ?_⟩)
        cases dd with
        | none => exact absurd (hdd rfl) (by simp)
        | some dx => exact ⟨dx, rfl, rfl, rfl⟩
      | number =>
        cases e
        exact suite_ok (g := g) (cdg := cdw) (A := (cx P w K mg base N_refused "_law_are_refused" s_law_are_refused f cdv A' outer s H E).A) (outer := (cx P w K mg base N_refused "_law_are_refused" s_law_are_refused f cdv A' outer s H E).stack) (s := s2) (H := H2) T hz hf T.eN T.kNC T.kNN T.vN (.inr ⟨rfl, rfl, rfl⟩)
def heardD (a : Int) : List D := [.tup [.str "coins", .int a], .tup [.str "coins", .int a], .str "number", .str "let"]
theorem heard_shaped (a : Int) : SeqAt.shaped (pyd (.lst (heardD a))) = true := by
  simp [heardD, SeqAt.shaped, pyd, pyds, PyData.canLay0, PyData.canLayAll0, PyData.depth, PyData.depthAll]
  exact ⟨by decide +kernel, by decide +kernel, by decide +kernel⟩
theorem heard_eqv (a : Int) : PyData.eqv (pyd (.lst (heardD a))) (pyd (.lst (heardD a))) = true := by
  simp [heardD, pyd, pyds, PyData.eqv, PyData.eqvAll]
def A_refused (cs ds : List D) (R : Res → List D → Prop) : Prop := A_right cs ds R
theorem deepNo {d : D} (h : deepOk d = true) : plD d = true ∧ within d 0 (10 ^ 30) = false := by
  cases d <;> first | exact ⟨rfl, rfl⟩ | cases h
theorem ok_law_are_refused (Tb : Blt mg) (T : Wt K mg aB aC aN) (Fw : Fun K "_law_word" "_law_word" s_law_word g fdw) (hbw : Binds K fdw ["call"] []) (hmw : mg "_law_word" = some (.ref g)) (TBx : TabB base mg c Pt) (hP : (Pt, ("_law_are_refused.<locals>.<lambda>" : Str)) ∈ lamT) (hu : ∀ p ∈ lamT, p.1 = Pt → p.2 = ("_law_are_refused.<locals>.<lambda>" : Str))
    (hfc : fd.code = .ref c) (F_law_no_coins : FnV P w K mg base 4 "_law_no_coins" (mutS (A_law_no_coins aC))) (F_law_any : FnV P w K mg base 2 "_law_any" (mutS A_law_any)) (F_law_deep : FnV P w K mg base 3 "_law_deep" (mutS A_law_deep)) (F_ways_digits : FnV P w K mg base 4 "ways_digits" (detS (A_ways aC aN)))
    (Fu : Fun K "_law_are_refused" "_law_are_refused" s_law_are_refused f fd) (hb : Binds K fd ["hand", "coins"] []) (hm : mg "_law_are_refused" = some (.ref f)) : FnV P w K mg base 7 "_law_are_refused" (mutS A_right) := by
  refine fn_mutC (k := 6) (fun cs ds R R' h ⟨hd, l, a, b, c, d, r⟩ => ⟨hd, l, a, b, c, d, fun h' => h _ _ (r h')⟩) Fu sc_law_are_refused hb hm (fun cs ds R ⟨hd, l, a, b, _⟩ => by subst b; rfl) fun cdv hcd A' outer s H E hr B q cs ds R ⟨h, l, e1, e2, lad, hl8, hR⟩ => ?_
  subst e1 e2
  have ecd : cdv = .ref c := hcd.symm.trans hfc
  refine css_tupD (T := .tp [.nm 2, .nm 3]) (q_hand 0 F_law_no_coins (hr.mono (by decide)) rfl (d_cons (c_var 1) d_nil) rfl ⟨q, h.ds, [.tup (l.map D.int)], rfl, h, l, rfl, rfl, lad, hl8, fun x a h1 hx => ⟨_, _, rfl, rfl, _, .tp (.cons .nm (.cons .nm .nil)), ?_⟩⟩) (tg_tp rfl (tgs_cons (tg_nm 2 B.nd) (tgs_cons (tg_nm 3 B.nd) tgs_nil)))
  obtain ⟨hx1, hx2⟩ := hx
  have b7 := Hd.draw_lt (h := (deepF h1).2) (many := 7) (by decide)
  have hy := getD_mem (l := [.int (-1), .non, .bl true, .str "1", .tup [.int 1], .int (10 ^ 30 + 1), (deepF h1).1]) (k := ((deepF h1).2.draw 7).toNat) (by simp; omega)
  have hyp : ∀ y, y ∈ ([.int (-1), .non, .bl true, .str "1", .tup [.int 1], .int (10 ^ 30 + 1), (deepF h1).1] : List D) → plD y = true ∧ within y 0 (10 ^ 30) = false := fun y hy => by
    simp only [List.mem_cons, List.not_mem_nil, or_false] at hy
    rcases hy with rfl | rfl | rfl | rfl | rfl | rfl | rfl
    · exact ⟨rfl, rfl⟩
    · exact ⟨rfl, rfl⟩
    · exact ⟨rfl, rfl⟩
    · exact ⟨rfl, rfl⟩
    · exact ⟨rfl, rfl⟩
    · exact ⟨rfl, by decide +kernel⟩
    · exact deepNo (deep_ok h1)
  obtain ⟨y1, y2⟩ := hyp _ hy
  generalize hyd : ([.int (-1), .non, .bl true, .str "1", .tup [.int 1], .int (10 ^ 30 + 1), (deepF h1).1] : List D).getD ((deepF h1).2.draw 7).toNat .non = y at y1 y2
  refine css_asg 4 B ((c_callM 0 F_law_any (hr.mono (by decide)) rfl (d_cons (CN.ce (n_lst (d_cons (c_neg c_int) (d_cons c_non (d_cons c_bl (d_cons c_str (d_cons (c_tup (d_cons c_int d_nil) (sz (by simp))) (d_cons (c_add (c_pow c_int c_int ⟨by decide, by decide, by decide⟩) c_int) (d_cons (c_callM 0 F_law_deep (hr.mono (by decide)) rfl d_nil rfl (fun R h' => ⟨_, _, _, rfl, h1, rfl, rfl, h'⟩)) d_nil))))))) (sz (by simp)))) d_nil) rfl (fun R h' => ⟨_, _, _, rfl, (deepF h1).2, _, rfl, rfl, by simp, by simp, h'⟩)).eq hyd) ?_
  have bad : ∀ (cs' : List Int), x = .tup (cs'.map D.int) → Lad cs' → cs'.length ≤ 60 → cs'.length ≤ 10 := fun cs' e l' h6 => by
    rw [e, lad_bad l' h6] at hx2
    cases hx2
  have r1 : waysRes aC aN x y = .error ⟨aC, [("at", .int a)]⟩ := by unfold waysRes; rw [hx2]
  have r2 : waysRes aC aN x (.int 1) = .error ⟨aC, [("at", .int a)]⟩ := by unfold waysRes; rw [hx2]
  have r3 : waysRes aC aN (.tup (l.map D.int)) y = .error ⟨aN, []⟩ := by
    unfold waysRes
    rw [lad_bad lad (by omega) aC]
    simp only [y2]
    rfl
  have r4 : waysRes aC aN (.tup (l.map D.int)) (.int (10 ^ 30)) = .ok (.int (waysD l (10 ^ 30))) := ways_ok lad (by omega) (by decide) (Int.le_refl _) aC aN
  have A1 : A_ways aC aN [x, y] (.error ⟨aC, [("at", .int a)]⟩) := ⟨_, _, rfl, hx1, y1, bad, r1.symm⟩
  have A2 : A_ways aC aN [x, .int 1] (.error ⟨aC, [("at", .int a)]⟩) := ⟨_, _, rfl, hx1, rfl, bad, r2.symm⟩
  have A3 : A_ways aC aN [.tup (l.map D.int), y] (.error ⟨aN, []⟩) := ⟨_, _, rfl, plT_ints l, y1, fun cs' e _ _ => by
    have e2 := congrArg (fun d => match d with | D.tup l => l.length | _ => 0) e
    simp only [List.length_map] at e2
    omega, r3.symm⟩
  have A4 : A_ways aC aN [.tup (l.map D.int), .int (10 ^ 30)] (.ok (.int (waysD l (10 ^ 30)))) := A_ways_ok lad (by omega) (by decide) (Int.le_refl _) aC aN
  have lam : ∀ {sc : Scope}, lamSB (defScope s_law_are_refused) sc = true → LamS (defScope s_law_are_refused) sc := fun h => lamS_by h
  refine css_asgN 5 B (n_lst (d_cons (c_word T Fw hbw hmw TBx hP hu ecd .coins hr (fun A o s' H' E' f' c' hr' => q_call F_ways_digits (hr'.mono (by decide)) (d_cons (c_var 2) (d_cons (c_var 4) d_nil)) ⟨_, _, rfl, A1, rfl, rfl, rfl⟩) (lamS_by (by decide +kernel)) (fun _ => rfl) (fun _ _ _ _ _ => rfl)) d_nil) (sz (by simp))) (fun q2 => ?_)
  refine css_append 5 (c_word T Fw hbw hmw TBx hP hu ecd .coins hr (fun A o s' H' E' f' c' hr' => q_call F_ways_digits (hr'.mono (by decide)) (d_cons (c_var 2) (d_cons c_int d_nil)) ⟨_, _, rfl, A2, rfl, rfl, rfl⟩) (lamS_by (by decide +kernel)) (fun _ => rfl) (fun _ _ _ _ _ => rfl)) rfl rfl (szl (by simp)) ?_
  refine css_append 5 (c_word T Fw hbw hmw TBx hP hu ecd .number hr (fun A o s' H' E' f' c' hr' => q_call F_ways_digits (hr'.mono (by decide)) (d_cons (c_var 1) (d_cons (c_var 4) d_nil)) ⟨_, _, rfl, A3, rfl, rfl, rfl⟩) (lamS_by (by decide +kernel)) (fun _ => rfl) (fun _ _ _ _ _ => rfl)) rfl rfl (szl (by simp)) ?_
  refine css_append 5 (c_word T Fw hbw hmw TBx hP hu ecd (.ok rfl) hr (fun A o s' H' E' f' c' hr' => q_call F_ways_digits (hr'.mono (by decide)) (d_cons (c_var 1) (d_cons (c_pow c_int c_int ⟨by decide, by decide, by decide⟩) d_nil)) ⟨_, _, rfl, A4, rfl, rfl, rfl⟩) (lamS_by (by decide +kernel)) (fun _ => rfl) (fun _ _ _ _ _ => rfl)) rfl rfl (szl (by simp)) ?_
  refine css_freeze (i := 5) rfl ?_
  refine css_ret (d := .bl true) ((c_eqD (x := .lst (heardD a)) (y := .lst (heardD a)) (by have := hr.un; omega) (c_var 5) ((CN.ce (n_catL (CN.ce (n_repL (CN.ce (n_lst (d_cons (c_tup (d_cons c_str (d_cons (c_var 3) d_nil)) (sz (by simp))) d_nil) (sz (by simp)))) c_int (by decide) (sz (by simp)))) (CN.ce (n_lst (d_cons c_str (d_cons c_str d_nil)) (sz (by simp)))) (sz (by simp)))).eq rfl) rfl rfl (heard_shaped a) (heard_shaped a)).eq ?_) ⟨_, rfl, hR _⟩
  rw [heard_eqv]
end
end K88
end

section
set_option Elab.async false
set_option linter.all false
set_option maxRecDepth 100000
set_option maxHeartbeats 4000000
namespace K88
open PySem PySem.Spec PyProof.Rows L2 VL
abbrev s_law : Stmt := topS 33
abbrev N_law : List Str := ["script", "hand", "said", "turn", "coins"]
theorem sc_law : FnScope N_law ["script"] (defScope s_law) := ⟨rfl, rfl, rfl, by decide +kernel, rfl, by decide +kernel, by decide +kernel⟩
theorem lad1 : Lad [1] := ⟨by decide, rfl, fun c hc => by rw [List.mem_singleton] at hc; subst hc; exact ⟨by decide, by unfold MC; decide⟩, fun k hk => by simp at hk⟩
theorem lad2 : Lad [1, 2] := lad1.push (by decide) (by decide) (by unfold MC; decide)
theorem lad24 : Lad [1, 2, 4] := lad2.push (by decide) (by decide) (by unfold MC; decide)
theorem lad15 : Lad [1, 5] := lad1.push (by decide) (by decide) (by unfold MC; decide)
theorem lad510 : Lad [1, 5, 10] := lad15.push (by decide) (by decide) (by unfold MC; decide)
theorem first_ways : ([waysD [1, 5, 10] 23, waysD [1] (10 ^ 30), waysD [1, 2] (10 ^ 30), waysD [1, 2, 4] 4] : List Int) = [9, 1, 5 * 10 ^ 29 + 1, 4] := by decide +kernel
section
variable {P : Program} {w : World} {K : PySem.W.Frag} {mg : Str → Option Value} {base : Heap} {f aC aN : Addr} {fd : FuncData}
theorem ok_law (T : Blt mg) (F_law_hand : FnN P w K mg base 2 "_law_hand" A_law_hand) (F_ways_digits : FnV P w K mg base 4 "ways_digits" (detS (A_ways aC aN))) (F_law_is : FnV P w K mg base 2 "_law_is" (detS A_law_is2)) (F_law_ladder : FnV P w K mg base 3 "_law_ladder" (mutS A_law_ladder))
    (F_small : FnV P w K mg base 5 "_law_is_small_right" (mutS A_right)) (F_great : FnV P w K mg base 5 "_law_is_great_right" (mutS A_right)) (F_refused : FnV P w K mg base 7 "_law_are_refused" (mutS A_right))
    (Fu : Fun K "law" "law" s_law f fd) (hb : Binds K fd ["script"] []) (hm : mg "law" = some (.ref f)) : FnOk P w K mg base (L2N.CX P w) 8 f fd ["script"] (spV K (detS A_script)) := by
  refine fn_law (k := 7) Fu sc_law (fun ds r ⟨ns, e, _⟩ => by subst e; rfl) (hb := hb) (hm := hm) fun cdv A' outer s H E hr B ds r ⟨ns, e, hl, er⟩ => ?_
  subst e er
  refine css_asgN 1 B (n_call F_law_hand (hr.mono (by decide)) (d_cons (c_var 0) d_nil) ⟨ns, rfl, hl, rfl⟩) (fun q => ?_)
  have p30 : (0 : Int) ≤ 10 ^ 30 := by decide
  refine css_asg 2 B (CN.ce (n_lst (d_cons (c_call F_ways_digits (hr.mono (by decide)) (d_cons (c_tup (d_cons c_int (d_cons c_int (d_cons c_int d_nil))) (sz (by simp))) (d_cons c_int d_nil)) (fun R h => ⟨_, _, rfl, A_ways_ok lad510 (by decide) (by decide) (by decide) aC aN, h⟩)) (d_cons (c_call F_ways_digits (hr.mono (by decide)) (d_cons (c_tup (d_cons c_int d_nil) (sz (by simp))) (d_cons (c_pow c_int c_int ⟨by decide, by decide, by decide⟩) d_nil)) (fun R h => ⟨_, _, rfl, A_ways_ok lad1 (by decide) p30 (Int.le_refl _) aC aN, h⟩)) (d_cons (c_call F_ways_digits (hr.mono (by decide)) (d_cons (c_tup (d_cons c_int (d_cons c_int d_nil)) (sz (by simp))) (d_cons (c_pow c_int c_int ⟨by decide, by decide, by decide⟩) d_nil)) (fun R h => ⟨_, _, rfl, A_ways_ok lad2 (by decide) p30 (Int.le_refl _) aC aN, h⟩)) d_nil))) (sz (by simp)))) ?_
  refine css_if (t_not (t_val (c_call (d := .bl true) F_law_is (hr.mono (by decide)) (d_cons (CN.ce (n_catL (c_var 2) (CN.ce (n_lst (d_cons (c_call F_ways_digits (hr.mono (by decide)) (d_cons (c_tup (d_cons c_int (d_cons c_int (d_cons c_int d_nil))) (sz (by simp))) (d_cons c_int d_nil)) (fun R h => ⟨_, _, rfl, A_ways_ok lad24 (by decide) (by decide) (by decide) aC aN, h⟩)) d_nil) (sz (by simp)))) (sz (by simp)))) (d_cons (CN.ce (n_lst (d_cons c_int (d_cons c_int (d_cons (c_add (c_mul c_int (c_pow c_int c_int ⟨by decide, by decide, by decide⟩) (.inl (by decide))) c_int) (d_cons c_int d_nil)))) (sz (by simp)))) d_nil))
    (fun R h => ⟨_, _, rfl, ⟨[waysD [1, 5, 10] 23, waysD [1] (10 ^ 30), waysD [1, 2] (10 ^ 30), waysD [1, 2, 4] 4], [9, 1, 5 * 10 ^ 29 + 1, 4], rfl, by decide, by rw [decide_eq_true first_ways]⟩, h⟩)))) (fun hc => by cases hc) (fun hc => ?_)
  refine css_nil ?_
  refine css_for (T := .nm 3) B (ci_range1 T.range c_int (by decide)) (tg_nm 3 B.nd) (fun i ρ => ∃ (h : Hd) (sd : Sl) (a b : Sl), ρ = [.dat (.frl (ns.map D.int)), .mut q h.ds, sd, a, b]) ⟨Hd.new ns, _, _, _, rfl⟩ (fun i d ρ hd hJ => ?_) (fun ρ hJ => ?_)
  · obtain ⟨_, rfl⟩ := rangeD_inv hd
    obtain ⟨h, sd, a, b, rfl⟩ := hJ
    refine ⟨_, .nm, ?_⟩
    refine css_asgD 4 B (q_hand 1 F_law_ladder (hr.mono (by decide)) rfl d_nil rfl ⟨q, h.ds, [], rfl, h, rfl, rfl, fun l h1 lad hl8 => ⟨_, _, rfl, rfl, ?_⟩⟩)
    refine css_ifQ (qt_w (qw_or (qt_not (qt_val (q_hand 1 F_small (hr.mono (by decide)) rfl (d_cons (c_var 4) d_nil) rfl ⟨q, h1.ds, [.tup (l.map D.int)], rfl, h1, l, rfl, rfl, lad, hl8, fun h2 => ⟨_, _, rfl, rfl, true, rfl, fun z => (by cases z), fun _ => ?_⟩⟩)))))
    refine qw_or1 (qt_not (qt_val (q_hand 1 F_great (hr.mono (by decide)) rfl (d_cons (c_var 4) d_nil) rfl ⟨q, h2.ds, [.tup (l.map D.int)], rfl, h2, l, rfl, rfl, lad, hl8, fun h3 => ⟨_, _, rfl, rfl, true, rfl, fun z => (by cases z), fun _ => ?_⟩⟩)))
    refine css_nil ?_
    refine css_ifQ (qt_not (qt_val (q_hand 1 F_refused (hr.mono (by decide)) rfl (d_cons (c_var 4) d_nil) rfl ⟨q, h3.ds, [.tup (l.map D.int)], rfl, h3, l, rfl, rfl, lad, hl8, fun h4 => ⟨_, _, rfl, rfl, true, rfl, fun z => (by cases z), fun _ => ?_⟩⟩)))
    exact css_nil (css_nil ⟨h4, _, _, _, rfl⟩)
  · obtain ⟨h, sd, a, b, rfl⟩ := hJ
    exact css_ret c_bl rfl
end
end K88
end

section
set_option Elab.async false
set_option linter.all false
set_option maxRecDepth 100000
set_option maxHeartbeats 4000000
namespace K88
open PySem PySem.Spec PyProof.Rows L2 VL VLH LamX
abbrev s_init : Stmt := match topS 6 with
  | .ClassDef _ _ _ (b :: _) .. => b
  | s => s
theorem sc_init : FnScope (["self", "at"] : List Str) (["self", "at"] : List Str) (defScope s_init) := ⟨rfl, rfl, rfl, by decide +kernel, rfl, by decide +kernel, by decide +kernel⟩
def excDB (K : PySem.W.Frag) (D : Addr) : Bool := (PySem.W.clsIn K D).isSome && (decide (PySem.W.findIn K (.ref D) "__getattribute__" = some (some (.builtin "BaseException.__getattribute__"))) && (decide (PySem.W.findIn K (.ref D) "__getattr__" = some none) && (decide (PySem.W.subIn K (.ref D) (.type "BaseException") = some true) && (decide (PySem.W.findIn K (.ref D) "__class__" = some (some (.builtin "object.__class__"))) && (decide (PySem.W.specialIn K (.builtin "object.__class__") "__get__" = some (some (.builtin "getset_descriptor.__get__"))) && (decide (PySem.W.takesIn K (.builtin "object.__class__") = some true) && decide (PySem.W.mroIn K D (.type "object") = some true)))))))
theorem excDB_ok {K : PySem.W.Frag} {D : Addr} (h : excDB K D = true) : ExcD K D := by
  unfold excDB at h
  simp only [Bool.and_eq_true, decide_eq_true_eq] at h
  obtain ⟨h1, h2, h3, h4, h5, h6, h7, h8⟩ := h
  exact ⟨h1, h2, h3, h4, h5, h6, h7, h8⟩
theorem xi_mk {X' : Cx} {P : Program} {w : World} {K : PySem.W.Frag} {mg : Str → Option Value} {base : Heap} {aC f0 : Addr} {fd : FuncData} {ps : List Str} (e1 : X'.prog = P) (e2 : X'.w = w) (e3 : X'.K = K) (e4 : X'.mg = mg) (e5 : X'.base = base) (g : mg "BadCoins" = some (.ref aC)) (o : OexC K aC) (nf : PySem.W.findIn K (.ref aC) "at" = some none) (h1 : PySem.W.findIn K (.ref aC) "__init__" = some (some (.ref f0))) (h2 : PySem.W.typeIn K (.ref f0) = some (.type "function")) (h3 : FnOk P w K mg base (L2N.CX P w) 1 f0 fd ps (spInit K "at")) (h4 : Binds K fd ps []) : Xi X' "BadCoins" "at" aC := by
  subst e1 e2 e3 e4 e5
  exact ⟨g, o, nf, f0, fd, ps, h1, h2, h3, h4⟩
theorem all_mk {l : PySem.W.OpenLaw} {w : World} {K : PySem.W.Frag} {h : Heap} {mg : Str → Option Value} {fa : Addr} (X : K.In h) (G : h.Ns mainGlobals mg) (hfa : mg "law" = some (.ref fa)) (mM : ∃ t, mg "MOST_COIN" = some (.int MC t))
    {f1 : Addr} {od1 an1 : Option Addr} {sl1 : Array (Option Value)} {oc1 kV1 dc1 pm1 cd1 ct1 : Value}
    {f2 : Addr} {od2 an2 : Option Addr} {sl2 : Array (Option Value)} {oc2 kV2 dc2 pm2 cd2 ct2 : Value}
    {f10 : Addr} {od10 an10 : Option Addr} {sl10 : Array (Option Value)} {oc10 kV10 dc10 pm10 cd10 ct10 : Value}
    {f11 : Addr} {od11 an11 : Option Addr} {sl11 : Array (Option Value)} {oc11 kV11 dc11 pm11 cd11 ct11 : Value}
    {f12 : Addr} {od12 an12 : Option Addr} {sl12 : Array (Option Value)} {oc12 kV12 dc12 pm12 cd12 ct12 : Value}
    {f13 : Addr} {od13 an13 : Option Addr} {sl13 : Array (Option Value)} {oc13 kV13 dc13 pm13 cd13 ct13 : Value}
    {f14 : Addr} {od14 an14 : Option Addr} {sl14 : Array (Option Value)} {oc14 kV14 dc14 pm14 cd14 ct14 : Value}
    {f15 : Addr} {od15 an15 : Option Addr} {sl15 : Array (Option Value)} {oc15 kV15 dc15 pm15 cd15 ct15 : Value}
    {f16 : Addr} {od16 an16 : Option Addr} {sl16 : Array (Option Value)} {oc16 kV16 dc16 pm16 cd16 ct16 : Value}
    {f18 : Addr} {od18 an18 : Option Addr} {sl18 : Array (Option Value)} {oc18 kV18 dc18 pm18 cd18 ct18 : Value}
    {f19 : Addr} {od19 an19 : Option Addr} {sl19 : Array (Option Value)} {oc19 kV19 dc19 pm19 cd19 ct19 : Value}
    {f20 : Addr} {od20 an20 : Option Addr} {sl20 : Array (Option Value)} {oc20 kV20 dc20 pm20 cd20 ct20 : Value}
    {f21 : Addr} {od21 an21 : Option Addr} {sl21 : Array (Option Value)} {oc21 kV21 dc21 pm21 cd21 ct21 : Value}
    {f22 : Addr} {od22 an22 : Option Addr} {sl22 : Array (Option Value)} {oc22 kV22 dc22 pm22 cd22 ct22 : Value}
    {f23 : Addr} {od23 an23 : Option Addr} {sl23 : Array (Option Value)} {oc23 kV23 dc23 pm23 cd23 ct23 : Value}
    {f24 : Addr} {od24 an24 : Option Addr} {sl24 : Array (Option Value)} {oc24 kV24 dc24 pm24 cd24 ct24 : Value}
    {f25 : Addr} {od25 an25 : Option Addr} {sl25 : Array (Option Value)} {oc25 kV25 dc25 pm25 cd25 ct25 : Value}
    {f26 : Addr} {od26 an26 : Option Addr} {sl26 : Array (Option Value)} {oc26 kV26 dc26 pm26 cd26 ct26 : Value}
    {f27 : Addr} {od27 an27 : Option Addr} {sl27 : Array (Option Value)} {oc27 kV27 dc27 pm27 cd27 ct27 : Value}
    {f28 : Addr} {od28 an28 : Option Addr} {sl28 : Array (Option Value)} {oc28 kV28 dc28 pm28 cd28 ct28 : Value}
    {f29 : Addr} {od29 an29 : Option Addr} {sl29 : Array (Option Value)} {oc29 kV29 dc29 pm29 cd29 ct29 : Value}
    {f30 : Addr} {od30 an30 : Option Addr} {sl30 : Array (Option Value)} {oc30 kV30 dc30 pm30 cd30 ct30 : Value}
    {f31 : Addr} {od31 an31 : Option Addr} {sl31 : Array (Option Value)} {oc31 kV31 dc31 pm31 cd31 ct31 : Value}
    {f32 : Addr} {od32 an32 : Option Addr} {sl32 : Array (Option Value)} {oc32 kV32 dc32 pm32 ct32 : Value}
    {f33 : Addr} {od33 an33 : Option Addr} {sl33 : Array (Option Value)} {oc33 kV33 dc33 pm33 cd33 ct33 : Value}
    {aB aC aN f0 N0 cT Pt : Addr} {nm qn : Str} {bs bm : List Value} {sn : List Str} {sub : List Value} {ab : Bool} {col : Option Bool} {dd : Option Addr} {m0 m1 m2 m3 m5 : Option Value} {od0 an0 : Option Addr} {sl0 : Array (Option Value)} {oc0 kV0 dc0 pm0 cd0 ct0 : Value}
    (a1 : PySem.W.nsIn K mainGlobals "is_integer" = some (some (.ref f1))) (l1 : K.lookup f1 = some ⟨oc1, od1, .func (PySem.W.fnOf "is_integer" "is_integer" (defArgs (topS 1)) (defBody (topS 1)) (defScope (topS 1)) .none kV1 dc1 pm1 an1 cd1 ct1), sl1⟩) (c1 : PySem.W.codeIn K cd1 "is_integer" = true) (k1 : PySem.W.keepIn K (.ref f1) = true)
    (a2 : PySem.W.nsIn K mainGlobals "is_within" = some (some (.ref f2))) (l2 : K.lookup f2 = some ⟨oc2, od2, .func (PySem.W.fnOf "is_within" "is_within" (defArgs (topS 2)) (defBody (topS 2)) (defScope (topS 2)) .none kV2 dc2 pm2 an2 cd2 ct2), sl2⟩) (c2 : PySem.W.codeIn K cd2 "is_within" = true) (k2 : PySem.W.keepIn K (.ref f2) = true)
    (a10 : PySem.W.nsIn K mainGlobals "check_ladder" = some (some (.ref f10))) (l10 : K.lookup f10 = some ⟨oc10, od10, .func (PySem.W.fnOf "check_ladder" "check_ladder" (defArgs (topS 10)) (defBody (topS 10)) (defScope (topS 10)) .none kV10 dc10 pm10 an10 cd10 ct10), sl10⟩) (c10 : PySem.W.codeIn K cd10 "check_ladder" = true) (k10 : PySem.W.keepIn K (.ref f10) = true)
    (a11 : PySem.W.nsIn K mainGlobals "digits_of" = some (some (.ref f11))) (l11 : K.lookup f11 = some ⟨oc11, od11, .func (PySem.W.fnOf "digits_of" "digits_of" (defArgs (topS 11)) (defBody (topS 11)) (defScope (topS 11)) .none kV11 dc11 pm11 an11 cd11 ct11), sl11⟩) (c11 : PySem.W.codeIn K cd11 "digits_of" = true) (k11 : PySem.W.keepIn K (.ref f11) = true)
    (a12 : PySem.W.nsIn K mainGlobals "check_amount" = some (some (.ref f12))) (l12 : K.lookup f12 = some ⟨oc12, od12, .func (PySem.W.fnOf "check_amount" "check_amount" (defArgs (topS 12)) (defBody (topS 12)) (defScope (topS 12)) .none kV12 dc12 pm12 an12 cd12 ct12), sl12⟩) (c12 : PySem.W.codeIn K cd12 "check_amount" = true) (k12 : PySem.W.keepIn K (.ref f12) = true)
    (a13 : PySem.W.nsIn K mainGlobals "digits" = some (some (.ref f13))) (l13 : K.lookup f13 = some ⟨oc13, od13, .func (PySem.W.fnOf "digits" "digits" (defArgs (topS 13)) (defBody (topS 13)) (defScope (topS 13)) .none kV13 dc13 pm13 an13 cd13 ct13), sl13⟩) (c13 : PySem.W.codeIn K cd13 "digits" = true) (k13 : PySem.W.keepIn K (.ref f13) = true)
    (a14 : PySem.W.nsIn K mainGlobals "ways_digits" = some (some (.ref f14))) (l14 : K.lookup f14 = some ⟨oc14, od14, .func (PySem.W.fnOf "ways_digits" "ways_digits" (defArgs (topS 14)) (defBody (topS 14)) (defScope (topS 14)) .none kV14 dc14 pm14 an14 cd14 ct14), sl14⟩) (c14 : PySem.W.codeIn K cd14 "ways_digits" = true) (k14 : PySem.W.keepIn K (.ref f14) = true)
    (a15 : PySem.W.nsIn K mainGlobals "summed_row" = some (some (.ref f15))) (l15 : K.lookup f15 = some ⟨oc15, od15, .func (PySem.W.fnOf "summed_row" "summed_row" (defArgs (topS 15)) (defBody (topS 15)) (defScope (topS 15)) .none kV15 dc15 pm15 an15 cd15 ct15), sl15⟩) (c15 : PySem.W.codeIn K cd15 "summed_row" = true) (k15 : PySem.W.keepIn K (.ref f15) = true)
    (a16 : PySem.W.nsIn K mainGlobals "value_at" = some (some (.ref f16))) (l16 : K.lookup f16 = some ⟨oc16, od16, .func (PySem.W.fnOf "value_at" "value_at" (defArgs (topS 16)) (defBody (topS 16)) (defScope (topS 16)) .none kV16 dc16 pm16 an16 cd16 ct16), sl16⟩) (c16 : PySem.W.codeIn K cd16 "value_at" = true) (k16 : PySem.W.keepIn K (.ref f16) = true)
    (a18 : PySem.W.nsIn K mainGlobals "_law_hand" = some (some (.ref f18))) (l18 : K.lookup f18 = some ⟨oc18, od18, .func (PySem.W.fnOf "_law_hand" "_law_hand" (defArgs (topS 18)) (defBody (topS 18)) (defScope (topS 18)) .none kV18 dc18 pm18 an18 cd18 ct18), sl18⟩) (c18 : PySem.W.codeIn K cd18 "_law_hand" = true) (k18 : PySem.W.keepIn K (.ref f18) = true)
    (a19 : PySem.W.nsIn K mainGlobals "_law_draw" = some (some (.ref f19))) (l19 : K.lookup f19 = some ⟨oc19, od19, .func (PySem.W.fnOf "_law_draw" "_law_draw" (defArgs (topS 19)) (defBody (topS 19)) (defScope (topS 19)) .none kV19 dc19 pm19 an19 cd19 ct19), sl19⟩) (c19 : PySem.W.codeIn K cd19 "_law_draw" = true) (k19 : PySem.W.keepIn K (.ref f19) = true)
    (a20 : PySem.W.nsIn K mainGlobals "_law_any" = some (some (.ref f20))) (l20 : K.lookup f20 = some ⟨oc20, od20, .func (PySem.W.fnOf "_law_any" "_law_any" (defArgs (topS 20)) (defBody (topS 20)) (defScope (topS 20)) .none kV20 dc20 pm20 an20 cd20 ct20), sl20⟩) (c20 : PySem.W.codeIn K cd20 "_law_any" = true) (k20 : PySem.W.keepIn K (.ref f20) = true)
    (a21 : PySem.W.nsIn K mainGlobals "_law_is" = some (some (.ref f21))) (l21 : K.lookup f21 = some ⟨oc21, od21, .func (PySem.W.fnOf "_law_is" "_law_is" (defArgs (topS 21)) (defBody (topS 21)) (defScope (topS 21)) .none kV21 dc21 pm21 an21 cd21 ct21), sl21⟩) (c21 : PySem.W.codeIn K cd21 "_law_is" = true) (k21 : PySem.W.keepIn K (.ref f21) = true)
    (a22 : PySem.W.nsIn K mainGlobals "_law_ways" = some (some (.ref f22))) (l22 : K.lookup f22 = some ⟨oc22, od22, .func (PySem.W.fnOf "_law_ways" "_law_ways" (defArgs (topS 22)) (defBody (topS 22)) (defScope (topS 22)) .none kV22 dc22 pm22 an22 cd22 ct22), sl22⟩) (c22 : PySem.W.codeIn K cd22 "_law_ways" = true) (k22 : PySem.W.keepIn K (.ref f22) = true)
    (a23 : PySem.W.nsIn K mainGlobals "_law_deep" = some (some (.ref f23))) (l23 : K.lookup f23 = some ⟨oc23, od23, .func (PySem.W.fnOf "_law_deep" "_law_deep" (defArgs (topS 23)) (defBody (topS 23)) (defScope (topS 23)) .none kV23 dc23 pm23 an23 cd23 ct23), sl23⟩) (c23 : PySem.W.codeIn K cd23 "_law_deep" = true) (k23 : PySem.W.keepIn K (.ref f23) = true)
    (a24 : PySem.W.nsIn K mainGlobals "_law_top" = some (some (.ref f24))) (l24 : K.lookup f24 = some ⟨oc24, od24, .func (PySem.W.fnOf "_law_top" "_law_top" (defArgs (topS 24)) (defBody (topS 24)) (defScope (topS 24)) .none kV24 dc24 pm24 an24 cd24 ct24), sl24⟩) (c24 : PySem.W.codeIn K cd24 "_law_top" = true) (k24 : PySem.W.keepIn K (.ref f24) = true)
    (a25 : PySem.W.nsIn K mainGlobals "_law_ladder" = some (some (.ref f25))) (l25 : K.lookup f25 = some ⟨oc25, od25, .func (PySem.W.fnOf "_law_ladder" "_law_ladder" (defArgs (topS 25)) (defBody (topS 25)) (defScope (topS 25)) .none kV25 dc25 pm25 an25 cd25 ct25), sl25⟩) (c25 : PySem.W.codeIn K cd25 "_law_ladder" = true) (k25 : PySem.W.keepIn K (.ref f25) = true)
    (a26 : PySem.W.nsIn K mainGlobals "_law_number" = some (some (.ref f26))) (l26 : K.lookup f26 = some ⟨oc26, od26, .func (PySem.W.fnOf "_law_number" "_law_number" (defArgs (topS 26)) (defBody (topS 26)) (defScope (topS 26)) .none kV26 dc26 pm26 an26 cd26 ct26), sl26⟩) (c26 : PySem.W.codeIn K cd26 "_law_number" = true) (k26 : PySem.W.keepIn K (.ref f26) = true)
    (a27 : PySem.W.nsIn K mainGlobals "_law_no_coins" = some (some (.ref f27))) (l27 : K.lookup f27 = some ⟨oc27, od27, .func (PySem.W.fnOf "_law_no_coins" "_law_no_coins" (defArgs (topS 27)) (defBody (topS 27)) (defScope (topS 27)) .none kV27 dc27 pm27 an27 cd27 ct27), sl27⟩) (c27 : PySem.W.codeIn K cd27 "_law_no_coins" = true) (k27 : PySem.W.keepIn K (.ref f27) = true)
    (a28 : PySem.W.nsIn K mainGlobals "_law_word" = some (some (.ref f28))) (l28 : K.lookup f28 = some ⟨oc28, od28, .func (PySem.W.fnOf "_law_word" "_law_word" (defArgs (topS 28)) (defBody (topS 28)) (defScope (topS 28)) .none kV28 dc28 pm28 an28 cd28 ct28), sl28⟩) (c28 : PySem.W.codeIn K cd28 "_law_word" = true) (k28 : PySem.W.keepIn K (.ref f28) = true)
    (a29 : PySem.W.nsIn K mainGlobals "_law_of_three" = some (some (.ref f29))) (l29 : K.lookup f29 = some ⟨oc29, od29, .func (PySem.W.fnOf "_law_of_three" "_law_of_three" (defArgs (topS 29)) (defBody (topS 29)) (defScope (topS 29)) .none kV29 dc29 pm29 an29 cd29 ct29), sl29⟩) (c29 : PySem.W.codeIn K cd29 "_law_of_three" = true) (k29 : PySem.W.keepIn K (.ref f29) = true)
    (a30 : PySem.W.nsIn K mainGlobals "_law_is_small_right" = some (some (.ref f30))) (l30 : K.lookup f30 = some ⟨oc30, od30, .func (PySem.W.fnOf "_law_is_small_right" "_law_is_small_right" (defArgs (topS 30)) (defBody (topS 30)) (defScope (topS 30)) .none kV30 dc30 pm30 an30 cd30 ct30), sl30⟩) (c30 : PySem.W.codeIn K cd30 "_law_is_small_right" = true) (k30 : PySem.W.keepIn K (.ref f30) = true)
    (a31 : PySem.W.nsIn K mainGlobals "_law_is_great_right" = some (some (.ref f31))) (l31 : K.lookup f31 = some ⟨oc31, od31, .func (PySem.W.fnOf "_law_is_great_right" "_law_is_great_right" (defArgs (topS 31)) (defBody (topS 31)) (defScope (topS 31)) .none kV31 dc31 pm31 an31 cd31 ct31), sl31⟩) (c31 : PySem.W.codeIn K cd31 "_law_is_great_right" = true) (k31 : PySem.W.keepIn K (.ref f31) = true)
    (a32 : PySem.W.nsIn K mainGlobals "_law_are_refused" = some (some (.ref f32))) (l32 : K.lookup f32 = some ⟨oc32, od32, .func (PySem.W.fnOf "_law_are_refused" "_law_are_refused" (defArgs (topS 32)) (defBody (topS 32)) (defScope (topS 32)) .none kV32 dc32 pm32 an32 (.ref cT) ct32), sl32⟩) (c32 : PySem.W.codeIn K (.ref cT) "_law_are_refused" = true) (k32 : PySem.W.keepIn K (.ref f32) = true)
    (a33 : PySem.W.nsIn K mainGlobals "law" = some (some (.ref f33))) (l33 : K.lookup f33 = some ⟨oc33, od33, .func (PySem.W.fnOf "law" "law" (defArgs (topS 33)) (defBody (topS 33)) (defScope (topS 33)) .none kV33 dc33 pm33 an33 cd33 ct33), sl33⟩) (c33 : PySem.W.codeIn K cd33 "law" = true) (k33 : PySem.W.keepIn K (.ref f33) = true)
    (nB : PySem.W.nsIn K mainGlobals "CoinError" = some (some (.ref aB)))
    (nC : PySem.W.nsIn K mainGlobals "BadCoins" = some (some (.ref aC)))
    (nN : PySem.W.nsIn K mainGlobals "BadNumber" = some (some (.ref aN)))
    (qN : PySem.W.excIn K aN [.type "ValueError", .type "Exception", .type "BaseException", .type "object"] "ValueError.__new__" = true)
    (kN : PySem.W.keepIn K (.ref aN) = true)
    (sN : PySem.W.subIn K (.ref aN) (.type "BaseException") = some true)
    (tN : PySem.W.typeIn K (.ref aN) = some (.type "type"))
    (xL : K.lookup aC = some (excClassObj nm qn aC N0 bs bm true sn sub ab col dd m0 m1 m2 m3 m5 "ValueError.__new__"))
    (hbm : PySem.HandSPX.refsVE bm = true)
    (saC : PySem.W.findIn K (.ref aC) "__setattr__" = some (some (.builtin "object.__setattr__")))
    (sC : PySem.W.subIn K (.ref aC) (.type "BaseException") = some true)
    (tC : PySem.W.typeIn K (.ref aC) = some (.type "type"))
    (kC : PySem.W.keepIn K (.ref aC) = true)
    (atC : PySem.W.findIn K (.ref aC) "at" = some none)
    (iC : PySem.W.findIn K (.ref aC) "__init__" = some (some (.ref f0)))
    (tI : PySem.W.typeIn K (.ref f0) = some (.type "function"))
    (l0 : K.lookup f0 = some ⟨oc0, od0, .func (PySem.W.fnOf "__init__" "BadCoins.__init__" (defArgs s_init) (defBody s_init) (defScope s_init) .none kV0 dc0 pm0 an0 cd0 ct0), sl0⟩)
    (c0 : PySem.W.codeIn K cd0 "BadCoins.__init__" = true)
    (k0 : PySem.W.keepIn K (.ref f0) = true)
    (xC : PySem.W.exmOne K (.ref aC) (.ref aB) = some true)
    (xN : PySem.W.exmOne K (.ref aN) (.ref aB) = some true)
    (kCC : PySem.W.kitOne K (.ref aC) (.ref aC) = some true)
    (kCN : PySem.W.kitOne K (.ref aC) (.ref aN) = some false)
    (kNC : PySem.W.kitOne K (.ref aN) (.ref aC) = some false)
    (kNN : PySem.W.kitOne K (.ref aN) (.ref aN) = some true)
    (vC : PySem.W.kitOne K (.ref aC) (.type "ValueError") = some true)
    (vN : PySem.W.kitOne K (.ref aN) (.type "ValueError") = some true)
    (eC : excDB K aC = true)
    (eN : excDB K aN = true)
    (fC : xfB K aC = true)
    (zV : PySem.W.nsIn K mainGlobals "ValueError" = some none)
    (tab : PySem.W.tabIn K "_law_are_refused" = some (cT, Pt))
    (nP : K.lookup Pt = none)
    (z_isinstance : PySem.W.nsIn K mainGlobals "isinstance" = some none)
    (z_int : PySem.W.nsIn K mainGlobals "int" = some none)
    (z_bool : PySem.W.nsIn K mainGlobals "bool" = some none)
    (z_str : PySem.W.nsIn K mainGlobals "str" = some none)
    (z_tuple : PySem.W.nsIn K mainGlobals "tuple" = some none)
    (z_list : PySem.W.nsIn K mainGlobals "list" = some none)
    (z_len : PySem.W.nsIn K mainGlobals "len" = some none)
    (z_range : PySem.W.nsIn K mainGlobals "range" = some none)
    (z_enumerate : PySem.W.nsIn K mainGlobals "enumerate" = some none)
    (z_zip : PySem.W.nsIn K mainGlobals "zip" = some none)
    (z_all : PySem.W.nsIn K mainGlobals "all" = some none)
    (z_abs : PySem.W.nsIn K mainGlobals "abs" = some none)
    (mC : ∃ t, PySem.W.nsIn K mainGlobals "MOST_COINS" = some (some (.int 60 t)))
    (hT : PySem.W.tabIn K "_law_are_refused" = some (cT, Pt) → PySem.W.CodeHd h cT Pt ∧ h.get? Pt = some (PySem.W.tabObj #[]))
    (hP : (Pt, ("_law_are_refused.<locals>.<lambda>" : Str)) ∈ lamT) (hu : ∀ p ∈ lamT, p.1 = Pt) (hu2 : ∀ p ∈ lamT, p.1 = Pt → p.2 = ("_law_are_refused.<locals>.<lambda>" : Str)) :
    ∃ (fd : FuncData) (cs : List (Addr × Addr)), (∀ p ∈ cs, h.get? p.2 = some { cls := .none, data := .fields #[] }) ∧ (∀ p ∈ cs, K.lookup p.2 = none) ∧ (∀ p ∈ cs, PySem.W.CodeHd h p.1 p.2) ∧ (∀ p ∈ lamT, p.1 ∈ cs.map (·.2)) ∧
      (∀ (s : Shared) (u : Value), BindsTo s fd ⟨[u], []⟩ [("script", u)]) ∧ ∀ base : Heap, K.In base → base.Ns mainGlobals mg → (∀ p ∈ cs, TabB base mg p.1 p.2) → FnOk l.prog w K mg base (L2N.CX l.prog w) 8 fa fd ["script"] (spV K (detS A_script)) := by
  have e := hfa.symm.trans (PySem.W.mg_of X G a33)
  cases e
  obtain ⟨hc1, hc2⟩ := hT tab
  have G1 := PySem.W.mg_of X G a1
  have F1 := fun_mk (st := topS 1) l1 c1 k1
  have b1 := F1.binds (ps := ["thing"]) fun _ _ _ _ _ _ us hl => match us, hl with | [_], _ => rfl
  have G2 := PySem.W.mg_of X G a2
  have F2 := fun_mk (st := topS 2) l2 c2 k2
  have b2 := F2.binds (ps := ["thing", "low", "high"]) fun _ _ _ _ _ _ us hl => match us, hl with | [_, _, _], _ => rfl
  have G10 := PySem.W.mg_of X G a10
  have F10 := fun_mk (st := topS 10) l10 c10 k10
  have b10 := F10.binds (ps := ["coins"]) fun _ _ _ _ _ _ us hl => match us, hl with | [_], _ => rfl
  have G11 := PySem.W.mg_of X G a11
  have F11 := fun_mk (st := topS 11) l11 c11 k11
  have b11 := F11.binds (ps := ["coins", "number"]) fun _ _ _ _ _ _ us hl => match us, hl with | [_, _], _ => rfl
  have G12 := PySem.W.mg_of X G a12
  have F12 := fun_mk (st := topS 12) l12 c12 k12
  have b12 := F12.binds (ps := ["number"]) fun _ _ _ _ _ _ us hl => match us, hl with | [_], _ => rfl
  have G13 := PySem.W.mg_of X G a13
  have F13 := fun_mk (st := topS 13) l13 c13 k13
  have b13 := F13.binds (ps := ["coins", "number"]) fun _ _ _ _ _ _ us hl => match us, hl with | [_, _], _ => rfl
  have G14 := PySem.W.mg_of X G a14
  have F14 := fun_mk (st := topS 14) l14 c14 k14
  have b14 := F14.binds (ps := ["coins", "number"]) fun _ _ _ _ _ _ us hl => match us, hl with | [_, _], _ => rfl
  have G15 := PySem.W.mg_of X G a15
  have F15 := fun_mk (st := topS 15) l15 c15 k15
  have b15 := F15.binds (ps := ["row", "ratio", "digit"]) fun _ _ _ _ _ _ us hl => match us, hl with | [_, _, _], _ => rfl
  have G16 := PySem.W.mg_of X G a16
  have F16 := fun_mk (st := topS 16) l16 c16 k16
  have b16 := F16.binds (ps := ["row", "number"]) fun _ _ _ _ _ _ us hl => match us, hl with | [_, _], _ => rfl
  have G18 := PySem.W.mg_of X G a18
  have F18 := fun_mk (st := topS 18) l18 c18 k18
  have b18 := F18.binds (ps := ["script"]) fun _ _ _ _ _ _ us hl => match us, hl with | [_], _ => rfl
  have G19 := PySem.W.mg_of X G a19
  have F19 := fun_mk (st := topS 19) l19 c19 k19
  have b19 := F19.binds (ps := ["hand", "many"]) fun _ _ _ _ _ _ us hl => match us, hl with | [_, _], _ => rfl
  have G20 := PySem.W.mg_of X G a20
  have F20 := fun_mk (st := topS 20) l20 c20 k20
  have b20 := F20.binds (ps := ["hand", "some"]) fun _ _ _ _ _ _ us hl => match us, hl with | [_, _], _ => rfl
  have G21 := PySem.W.mg_of X G a21
  have F21 := fun_mk (st := topS 21) l21 c21 k21
  have b21 := F21.binds (ps := ["said", "due"]) fun _ _ _ _ _ _ us hl => match us, hl with | [_, _], _ => rfl
  have G22 := PySem.W.mg_of X G a22
  have F22 := fun_mk (st := topS 22) l22 c22 k22
  have b22 := F22.binds (ps := ["coins", "bound"]) fun _ _ _ _ _ _ us hl => match us, hl with | [_, _], _ => rfl
  have G23 := PySem.W.mg_of X G a23
  have F23 := fun_mk (st := topS 23) l23 c23 k23
  have b23 := F23.binds (ps := ["hand"]) fun _ _ _ _ _ _ us hl => match us, hl with | [_], _ => rfl
  have G24 := PySem.W.mg_of X G a24
  have F24 := fun_mk (st := topS 24) l24 c24 k24
  have b24 := F24.binds (ps := ["often"]) fun _ _ _ _ _ _ us hl => match us, hl with | [_], _ => rfl
  have G25 := PySem.W.mg_of X G a25
  have F25 := fun_mk (st := topS 25) l25 c25 k25
  have b25 := F25.binds (ps := ["hand"]) fun _ _ _ _ _ _ us hl => match us, hl with | [_], _ => rfl
  have G26 := PySem.W.mg_of X G a26
  have F26 := fun_mk (st := topS 26) l26 c26 k26
  have b26 := F26.binds (ps := ["hand"]) fun _ _ _ _ _ _ us hl => match us, hl with | [_], _ => rfl
  have G27 := PySem.W.mg_of X G a27
  have F27 := fun_mk (st := topS 27) l27 c27 k27
  have b27 := F27.binds (ps := ["hand", "coins"]) fun _ _ _ _ _ _ us hl => match us, hl with | [_, _], _ => rfl
  have G28 := PySem.W.mg_of X G a28
  have F28 := fun_mk (st := topS 28) l28 c28 k28
  have b28 := F28.binds (ps := ["call"]) fun _ _ _ _ _ _ us hl => match us, hl with | [_], _ => rfl
  have G29 := PySem.W.mg_of X G a29
  have F29 := fun_mk (st := topS 29) l29 c29 k29
  have b29 := F29.binds (ps := ["coins", "number"]) fun _ _ _ _ _ _ us hl => match us, hl with | [_, _], _ => rfl
  have G30 := PySem.W.mg_of X G a30
  have F30 := fun_mk (st := topS 30) l30 c30 k30
  have b30 := F30.binds (ps := ["hand", "coins"]) fun _ _ _ _ _ _ us hl => match us, hl with | [_, _], _ => rfl
  have G31 := PySem.W.mg_of X G a31
  have F31 := fun_mk (st := topS 31) l31 c31 k31
  have b31 := F31.binds (ps := ["hand", "coins"]) fun _ _ _ _ _ _ us hl => match us, hl with | [_, _], _ => rfl
  have G32 := PySem.W.mg_of X G a32
  have F32 := fun_mk (st := topS 32) l32 c32 k32
  have b32 := F32.binds (ps := ["hand", "coins"]) fun _ _ _ _ _ _ us hl => match us, hl with | [_, _], _ => rfl
  have G33 := PySem.W.mg_of X G a33
  have F33 := fun_mk (st := topS 33) l33 c33 k33
  have b33 := F33.binds (ps := ["script"]) fun _ _ _ _ _ _ us hl => match us, hl with | [_], _ => rfl
  have Tb : Blt mg := ⟨PySem.W.mg_none_of X G z_isinstance, PySem.W.mg_none_of X G z_int, PySem.W.mg_none_of X G z_bool, PySem.W.mg_none_of X G z_str, PySem.W.mg_none_of X G z_tuple, PySem.W.mg_none_of X G z_list, PySem.W.mg_none_of X G z_len, PySem.W.mg_none_of X G z_range, PySem.W.mg_none_of X G z_enumerate, PySem.W.mg_none_of X G z_zip, PySem.W.mg_none_of X G z_all, PySem.W.mg_none_of X G z_abs⟩
  have TX : Txt K mg l.prog w h aN aC := { toBlt := Tb, MOST_COINS := mC.imp fun _ z => PySem.W.mg_of X G z, MOST_COIN := mM }
  have TW : Wt K mg aB aC aN := ⟨Tb.isinstance, Tb.len, PySem.W.mg_of X G nB, PySem.W.mg_of X G nC, PySem.W.mg_of X G nN, PySem.W.mg_none_of X G zV, xC, xN, kCC, kCN, kNC, kNN, vC, vN, excDB_ok eC, excDB_ok eN, xfB_ok fC, atC⟩
  have F0 := fun_mk (st := s_init) l0 c0 k0
  have b0 := F0.binds (ps := (["self", "at"] : List Str)) fun _ _ _ _ _ _ us hl => match us, hl with | [_, _], _ => rfl
  refine ⟨PySem.W.fnOf "law" "law" (defArgs (topS 33)) (defBody (topS 33)) (defScope (topS 33)) .none kV33 dc33 pm33 an33 cd33 ct33, [(cT, Pt)], fun p hp => by rw [List.mem_singleton] at hp; subst hp; exact hc2, fun p hp => by rw [List.mem_singleton] at hp; subst hp; exact nP, fun p hp => by rw [List.mem_singleton] at hp; subst hp; exact hc1, fun p hp => by rw [hu p hp]; exact List.mem_cons_self, fun _ _ => PySem.BindsTo.of_eq rfl, fun base XB GB TBs => ?_⟩
  have oi : FnOk l.prog w K mg base (L2N.CX l.prog w) 1 f0 _ (["self", "at"] : List Str) (spInit K "at") := ok_init F0 sc_init fun X' hN' hs' => pss_one (ps_ost (pe_var (by rw [hN']; rfl) (by rw [hs']; exact .inl rfl) (by decide) (by decide)) (pe_var (by rw [hN']; rfl) (by rw [hs']; exact .inl rfl) (by decide) (by decide)))
  have TC : ∀ X' : Cx, X'.prog = l.prog → X'.w = w → X'.K = K → X'.mg = mg → X'.base = base → Xi X' "BadCoins" "at" aC := fun X' e1 e2 e3 e4 e5 =>
    xi_mk e1 e2 e3 e4 e5 (PySem.W.mg_of X G nC) ⟨⟨nm, qn, N0, bs, _, sn, sub, ab, col, dd, m0, m1, m2, m3, m5, xL, hbm⟩, saC, sC, tC, kC⟩ atC iC tI oi b0
  have TN : ∀ X' : Cx, X'.prog = l.prog → X'.w = w → X'.K = K → X'.mg = mg → X'.base = base → Xc X' "BadNumber" aN := fun X' e1 e2 e3 e4 e5 =>
    ⟨by rw [e4]; exact PySem.W.mg_of X G nN, by rw [e3]; exact qN, by rw [e3]; exact kN, by rw [e3]; exact sN, by rw [e3]; exact tN⟩
  have TX' : Txt K mg l.prog w base aN aC := { toBlt := Tb, MOST_COINS := TX.MOST_COINS, MOST_COIN := TX.MOST_COIN }
  have TBx := TBs (cT, Pt) List.mem_cons_self
  have o1 := ok_is_integer (P := l.prog) (w := w) (base := base) Tb F1 b1 G1
  have o2 := ok_is_within Tb o1 F2 b2 G2
  have o10 := ok_check_ladder TX' TC o1 F10 b10 G10
  have o11 := ok_digits_of (P := l.prog) (w := w) (base := base) Tb F11 b11 G11
  have o12 := ok_check_amount TX' TN o2 F12 b12 G12
  have o16 := ok_value_at (P := l.prog) (w := w) (base := base) Tb F16 b16 G16
  have o15 := ok_summed_row Tb o16 F15 b15 G15
  have o13 := ok_digits o10 o12 o11 F13 b13 G13
  have o14 := ok_ways_digits TX' TN o2 o10 o11 o15 o16 F14 b14 G14
  have o18 := ok_law_hand (P := l.prog) (w := w) (base := base) Tb F18 b18 G18
  have o19 := ok_law_draw (P := l.prog) (w := w) (base := base) Tb F19 b19 G19
  have o20 := ok_law_any Tb o19 F20 b20 G20
  have o21 := ok_law_is1 (P := l.prog) (w := w) (base := base) Tb F21 b21 G21
  have o212 := ok_law_is2 Tb o21 F21 b21 G21
  have o22 := ok_law_ways (P := l.prog) (w := w) (base := base) Tb F22 b22 G22
  have o23 := ok_law_deep Tb o19 o20 F23 b23 G23
  have o24 := ok_law_top (P := l.prog) (w := w) (base := base) Tb F24 b24 G24
  have o25 := ok_law_ladder Tb o19 o20 o24 F25 b25 G25
  have o26 := ok_law_number Tb o19 o20 F26 b26 G26
  have o27 := ok_law_no_coins (aC := aC) Tb o19 o20 o24 o23 F27 b27 G27
  have o29 := ok_law_of_three (P := l.prog) (w := w) (base := base) Tb F29 b29 G29
  have o30 := ok_law_is_small_right Tb o19 o22 o21 o14 F30 b30 G30
  have o31 := ok_law_is_great_right Tb o26 o29 o24 o21 o14 o13 F31 b31 G31
  have o32 := ok_law_are_refused Tb TW F28 b28 G28 TBx hP hu2 rfl o27 o20 o23 o14 F32 b32 G32
  exact ok_law Tb o18 o14 o212 o25 o30 o31 o32 F33 b33 G33
end K88
end

section
set_option Elab.async false
set_option linter.all false
open PySem PySem.W PyProof.Rows
set_option maxRecDepth 100000 in
set_option maxHeartbeats 0 in
theorem PySem.Challenge.cw_paidornot_k88_whole_ways_by_digits_holds : PySem.Challenge.rw_paidornot_k88_whole_ways_by_digits.Holds := by
  w_on; o_law; k_head; (case hw => w_witness2)
  k_fill
  refine VL.walk_vl (l := PySem.Challenge.rw_paidornot_k88_whole_ways_by_digits) (k := 8) (x := "script") rfl rfl ⟨rfl, by decide, by decide⟩ (fun w h Y => PySem.W.km_in_of Y) ?F
  case F =>
    intro w mg fa h Y Xp KX G hmg HT
    have mM : ∃ t, mg "MOST_COIN" = some (.int K88.MC t) := by
      obtain ⟨v, h1, h2⟩ := Xp.2.val _ List.mem_cons_self
      cases h2 with
      | int i t => exact ⟨t, h1⟩
    refine' K88.all_mk (Pt := 211) KX G hmg mM ?a1 ?l1 ?c1 ?k1 ?a2 ?l2 ?c2 ?k2 ?a10 ?l10 ?c10 ?k10 ?a11 ?l11 ?c11 ?k11 ?a12 ?l12 ?c12 ?k12 ?a13 ?l13 ?c13 ?k13 ?a14 ?l14 ?c14 ?k14 ?a15 ?l15 ?c15 ?k15 ?a16 ?l16 ?c16 ?k16 ?a18 ?l18 ?c18 ?k18 ?a19 ?l19 ?c19 ?k19 ?a20 ?l20 ?c20 ?k20 ?a21 ?l21 ?c21 ?k21 ?a22 ?l22 ?c22 ?k22 ?a23 ?l23 ?c23 ?k23 ?a24 ?l24 ?c24 ?k24 ?a25 ?l25 ?c25 ?k25 ?a26 ?l26 ?c26 ?k26 ?a27 ?l27 ?c27 ?k27 ?a28 ?l28 ?c28 ?k28 ?a29 ?l29 ?c29 ?k29 ?a30 ?l30 ?c30 ?k30 ?a31 ?l31 ?c31 ?k31 ?a32 ?l32 ?c32 ?k32 ?a33 ?l33 ?c33 ?k33 ?nB ?nC ?nN ?qN ?kN ?sN ?tN ?xL ?hbm ?saC ?sC ?tC ?kC ?atC ?iC ?tI ?l0 ?c0 ?k0 ?xC ?xN ?kCC ?kCN ?kNC ?kNN ?vC ?vN ?eC ?eN ?fC ?zV ?tab ?nP ?z_isinstance ?z_int ?z_bool ?z_str ?z_tuple ?z_list ?z_len ?z_range ?z_enumerate ?z_zip ?z_all ?z_abs ?mC ?hT ?hP ?hu ?hu2
    case a1 => k_is
    case l1 => k_is
    case c1 => k_is
    case k1 => k_is
    case a2 => k_is
    case l2 => k_is
    case c2 => k_is
    case k2 => k_is
    case a10 => k_is
    case l10 => k_is
    case c10 => k_is
    case k10 => k_is
    case a11 => k_is
    case l11 => k_is
    case c11 => k_is
    case k11 => k_is
    case a12 => k_is
    case l12 => k_is
    case c12 => k_is
    case k12 => k_is
    case a13 => k_is
    case l13 => k_is
    case c13 => k_is
    case k13 => k_is
    case a14 => k_is
    case l14 => k_is
    case c14 => k_is
    case k14 => k_is
    case a15 => k_is
    case l15 => k_is
    case c15 => k_is
    case k15 => k_is
    case a16 => k_is
    case l16 => k_is
    case c16 => k_is
    case k16 => k_is
    case a18 => k_is
    case l18 => k_is
    case c18 => k_is
    case k18 => k_is
    case a19 => k_is
    case l19 => k_is
    case c19 => k_is
    case k19 => k_is
    case a20 => k_is
    case l20 => k_is
    case c20 => k_is
    case k20 => k_is
    case a21 => k_is
    case l21 => k_is
    case c21 => k_is
    case k21 => k_is
    case a22 => k_is
    case l22 => k_is
    case c22 => k_is
    case k22 => k_is
    case a23 => k_is
    case l23 => k_is
    case c23 => k_is
    case k23 => k_is
    case a24 => k_is
    case l24 => k_is
    case c24 => k_is
    case k24 => k_is
    case a25 => k_is
    case l25 => k_is
    case c25 => k_is
    case k25 => k_is
    case a26 => k_is
    case l26 => k_is
    case c26 => k_is
    case k26 => k_is
    case a27 => k_is
    case l27 => k_is
    case c27 => k_is
    case k27 => k_is
    case a28 => k_is
    case l28 => k_is
    case c28 => k_is
    case k28 => k_is
    case a29 => k_is
    case l29 => k_is
    case c29 => k_is
    case k29 => k_is
    case a30 => k_is
    case l30 => k_is
    case c30 => k_is
    case k30 => k_is
    case a31 => k_is
    case l31 => k_is
    case c31 => k_is
    case k31 => k_is
    case a32 => k_is
    case l32 => k_is
    case c32 => k_is
    case k32 => k_is
    case a33 => k_is
    case l33 => k_is
    case c33 => k_is
    case k33 => k_is
    case nB => k_is
    case nC => k_is
    case nN => k_is
    case qN => k_exc
    case kN => k_is
    case sN => k_is
    case tN => k_is
    case xL => k_is
    case hbm => kernel_rfl
    case saC => k_is
    case sC => k_is
    case tC => k_is
    case kC => k_is
    case atC => k_is
    case iC => k_is
    case tI => k_is
    case l0 => k_is
    case c0 => k_is
    case k0 => k_is
    case xC => kernel_rfl
    case xN => kernel_rfl
    case kCC => kernel_rfl
    case kCN => kernel_rfl
    case kNC => kernel_rfl
    case kNN => kernel_rfl
    case vC => kernel_rfl
    case vN => kernel_rfl
    case eC => kernel_rfl
    case eN => kernel_rfl
    case fC => kernel_rfl
    case zV => k_is
    case tab => kernel_rfl
    case nP => kernel_rfl
    case z_isinstance => k_is
    case z_int => k_is
    case z_bool => k_is
    case z_str => k_is
    case z_tuple => k_is
    case z_list => k_is
    case z_len => k_is
    case z_range => k_is
    case z_enumerate => k_is
    case z_zip => k_is
    case z_all => k_is
    case z_abs => k_is
    case mC => exact ⟨_, by k_is⟩
    case hT => exact fun _ => ⟨PySem.W.codeHd_of_K KX (by kernel_rfl), PySem.W.km_tabs_of Y _ (by k_mem)⟩
    case hP => exact List.mem_cons_self
    case hu => exact fun p hp => by rw [List.mem_singleton.mp hp]
    case hu2 => exact fun p hp _ => by rw [List.mem_singleton.mp hp]
end
