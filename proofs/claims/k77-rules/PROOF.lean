import PyProof.Rows.All
import Wide.All
import OpenK.AllK
import Wide.FinOn
import HandS.ForMost
import HandS.Exc
import HandS.TryOnly
import HandS.ExcOwn
import HandS.WordsExc
import HandS.Wide
import HandS.IsInst
import HandS.TupAny
import HandS.TupMul
import HandS.SortInts
import HandS.Style
import HandS.Lambda
import HandS.ExcCtx
import HandS.ExcInit
import HandS.Walk
import HandS.Zip
import HandS.RaiseMore
import HandS.Hot
import HandS.HotCalls
import KE.KExcIs
import HandS.ExcField
import PyProof.LongRange
import HandS.Dict
import HandS.EndTab
import KE.GoesMore
import KE.GoesZip
import KE.GoesEnum
import KE.KTupSum
import HandS.Codes
import KE.LtData
import KE.DataCmp
import KE.DataMinMax
import KE.SortData
import HandS.Deep
import PyProof.ReprLen
import PyProof.ReprRoads
import PyProof.FitsInt
import PyProof.Rows.CountFlat
import HandS.CallLocal
import HandS.TupLe
import HandS.Conv
import HandS.OwnEq
import PySem.Challenge.RW_paidornot_k77_whole_rules_by_one_rest
section
set_option linter.all false
namespace VL
open PySem PySem.Spec PyProof.Rows
/-- the tables of code objects that grow (of the defs with lambdas), and the lambdas' name -/
def lamT : List (Addr × Str) := [(376, "_law_refused_right.<locals>.<lambda>"), (383, "_law_word_of.<locals>.<lambda>"), (390, "_law_word_great.<locals>.<lambda>")]
/-- the numbers of the law's own hand -/
abbrev handA : Int := 37
abbrev handM : Int := 5
end VL
end

section
set_option Elab.async false
set_option linter.all false
set_option maxRecDepth 100000
set_option maxHeartbeats 4000000
namespace VL
open PySem PySem.Spec PyProof.Rows L2

/-! ### data, and what bears it -/
inductive D where
  | non | bl (b : Bool) | int (i : Int) | str (x : Str)
  | tup (l : List D) | lst (l : List D)
  /-- a list that is read alone (the script) -/
  | frl (l : List D)
  | dic (l : List (Key × D))
  | ty (n : String) | adr (a : Addr)
  | ins (C : Addr) (fs : List (Str × D))
  /-- a caught exception with its dict -/
  | exc (a dx : Addr) (fs : List (Str × D))

def Ex (H H' : Hp) : Prop := ∀ a o, H a = some o → H' a = some o
theorem Ex.refl (H : Hp) : Ex H H := fun _ _ h => h
theorem Ex.trans {H H1 H2 : Hp} (a : Ex H H1) (b : Ex H1 H2) : Ex H H2 := fun x o h => b x o (a x o h)
theorem Ex.rd {H H' : Hp} {a : Addr} {u : HO} (e : Ex H H') (h : Rd H a u) : Rd H' a u := by
  rcases h with h | ⟨o, h⟩
  · exact Or.inl (e a _ h)
  · exact Or.inr ⟨o, e a _ h⟩
theorem Ex.l {K : PySem.W.Frag} {H H' : Hp} {a : Addr} {xs : List V} (e : Ex H H') (h : SqL K H a xs) : SqL K H' a xs := by
  rcases h with h | h
  · exact Or.inl (e.rd h)
  · exact Or.inr h
theorem Ex.t {K : PySem.W.Frag} {H H' : Hp} {a : Addr} {xs : List V} (e : Ex H H') (h : SqT K H a xs) : SqT K H' a xs := by
  rcases h with h | h
  · exact Or.inl (e.rd h)
  · exact Or.inr h

mutual
inductive Rep (K : PySem.W.Frag) (H : Hp) : V → D → Prop
  | non : Rep K H .non .non
  | bl (b : Bool) : Rep K H (.bl b) (.bl b)
  | int (i : Int) : Rep K H (.int i) (.int i)
  | str (x : Str) : Rep K H (.str x) (.str x)
  | ty (n : String) : Rep K H (.ty n) (.ty n)
  | adr (a : Addr) : Rep K H (.ref a) (.adr a)
  | tup {a : Addr} {vs : List V} {ds : List D} : SqT K H a vs → Reps K H vs ds → Rep K H (.ref a) (.tup ds)
  | lst {a : Addr} {vs : List V} {ds : List D} : H a = some (.lst vs) → Reps K H vs ds → Rep K H (.ref a) (.lst ds)
  | frl {a : Addr} {vs : List V} {ds : List D} : SqL K H a vs → Reps K H vs ds → Rep K H (.ref a) (.frl ds)
  | dic {a : Addr} {kvs : List (Key × V)} {ds : List (Key × D)} : H a = some (.dK kvs) → RepK K H kvs ds → Rep K H (.ref a) (.dic ds)
  | ins {a C dx : Addr} {fvs : List (Str × V)} {fs : List (Str × D)} : H a = some (.ins C dx fvs) → RepF K H fvs fs → Rep K H (.ref a) (.ins C fs)
  | exc {a dx : Addr} {fvs : List (Str × V)} {fs : List (Str × D)} : H dx = some (.xd fvs) → RepF K H fvs fs → Rep K H (.ref a) (.exc a dx fs)
inductive Reps (K : PySem.W.Frag) (H : Hp) : List V → List D → Prop
  | nil : Reps K H [] []
  | cons {v : V} {vs : List V} {d : D} {ds : List D} : Rep K H v d → Reps K H vs ds → Reps K H (v :: vs) (d :: ds)
inductive RepK (K : PySem.W.Frag) (H : Hp) : List (Key × V) → List (Key × D) → Prop
  | nil : RepK K H [] []
  | cons {k : Key} {v : V} {vs : List (Key × V)} {d : D} {ds : List (Key × D)} : Rep K H v d → RepK K H vs ds → RepK K H ((k, v) :: vs) ((k, d) :: ds)
inductive RepF (K : PySem.W.Frag) (H : Hp) : List (Str × V) → List (Str × D) → Prop
  | nil : RepF K H [] []
  | cons {k : Str} {v : V} {vs : List (Str × V)} {d : D} {ds : List (Str × D)} : Rep K H v d → RepF K H vs ds → RepF K H ((k, v) :: vs) ((k, d) :: ds)
end

section
variable {K : PySem.W.Frag} {H H' : Hp}
mutual
theorem Rep.mono (e : Ex H H') : ∀ {v : V} {d : D}, Rep K H v d → Rep K H' v d
  | _, _, .non => .non
  | _, _, .bl b => .bl b
  | _, _, .int i => .int i
  | _, _, .str x => .str x
  | _, _, .ty n => .ty n
  | _, _, .adr a => .adr a
  | _, _, .tup h r => .tup (e.t h) (Reps.mono e r)
  | _, _, .lst h r => .lst (e _ _ h) (Reps.mono e r)
  | _, _, .frl h r => .frl (e.l h) (Reps.mono e r)
  | _, _, .dic h r => .dic (e _ _ h) (RepK.mono e r)
  | _, _, .ins h r => .ins (e _ _ h) (RepF.mono e r)
  | _, _, .exc h r => .exc (e _ _ h) (RepF.mono e r)
theorem Reps.mono (e : Ex H H') : ∀ {v : List V} {d : List D}, Reps K H v d → Reps K H' v d
  | _, _, .nil => .nil
  | _, _, .cons h r => .cons (Rep.mono e h) (Reps.mono e r)
theorem RepK.mono (e : Ex H H') : ∀ {v : List (Key × V)} {d : List (Key × D)}, RepK K H v d → RepK K H' v d
  | _, _, .nil => .nil
  | _, _, .cons h r => .cons (Rep.mono e h) (RepK.mono e r)
theorem RepF.mono (e : Ex H H') : ∀ {v : List (Str × V)} {d : List (Str × D)}, RepF K H v d → RepF K H' v d
  | _, _, .nil => .nil
  | _, _, .cons h r => .cons (Rep.mono e h) (RepF.mono e r)
end
theorem Reps.length : ∀ {v : List V} {d : List D}, Reps K H v d → v.length = d.length
  | _, _, .nil => rfl
  | _, _, .cons _ r => by rw [List.length_cons, List.length_cons, r.length]
theorem Reps.get : ∀ {vs : List V} {ds : List D} {i : Nat} {d : D}, Reps K H vs ds → ds[i]? = some d → ∃ v, vs[i]? = some v ∧ Rep K H v d
  | _, _, i, d, .nil, e => by simp at e
  | _, _, 0, d, .cons h _, e => by
    rw [List.getElem?_cons_zero] at e
    cases e
    exact ⟨_, rfl, h⟩
  | _, _, i + 1, d, .cons _ r, e => by
    rw [List.getElem?_cons_succ] at e
    obtain ⟨v, e1, h⟩ := r.get e
    exact ⟨v, by rw [List.getElem?_cons_succ]; exact e1, h⟩
theorem Reps.get' : ∀ {vs : List V} {ds : List D} {i : Nat} {v : V}, Reps K H vs ds → vs[i]? = some v → ∃ d, ds[i]? = some d ∧ Rep K H v d
  | _, _, i, d, .nil, e => by simp at e
  | _, _, 0, d, .cons h _, e => by
    rw [List.getElem?_cons_zero] at e
    cases e
    exact ⟨_, rfl, h⟩
  | _, _, i + 1, d, .cons _ r, e => by
    rw [List.getElem?_cons_succ] at e
    obtain ⟨v, e1, h⟩ := r.get' e
    exact ⟨v, by rw [List.getElem?_cons_succ]; exact e1, h⟩
theorem Reps.append : ∀ {vs ws : List V} {ds es : List D}, Reps K H vs ds → Reps K H ws es → Reps K H (vs ++ ws) (ds ++ es)
  | _, _, _, _, .nil, r => r
  | _, _, _, _, .cons h t, r => .cons h (t.append r)
theorem Reps.one {v : V} {d : D} (h : Rep K H v d) : Reps K H [v] [d] := .cons h .nil
theorem Reps.take : ∀ {vs : List V} {ds : List D} (n : Nat), Reps K H vs ds → Reps K H (vs.take n) (ds.take n)
  | _, _, 0, _ => by rw [List.take_zero, List.take_zero]; exact .nil
  | _, _, n + 1, .nil => by rw [List.take_nil, List.take_nil]; exact .nil
  | _, _, n + 1, .cons h r => by rw [List.take_succ_cons, List.take_succ_cons]; exact .cons h (r.take n)
theorem Reps.drop : ∀ {vs : List V} {ds : List D} (n : Nat), Reps K H vs ds → Reps K H (vs.drop n) (ds.drop n)
  | _, _, 0, r => by rw [List.drop_zero, List.drop_zero]; exact r
  | _, _, n + 1, .nil => by rw [List.drop_nil, List.drop_nil]; exact .nil
  | _, _, n + 1, .cons h r => by rw [List.drop_succ_cons, List.drop_succ_cons]; exact r.drop n
theorem Reps.set : ∀ {vs : List V} {ds : List D} (n : Nat) {v : V} {d : D}, Rep K H v d → Reps K H vs ds → Reps K H (vs.set n v) (ds.set n d)
  | _, _, _, _, _, _, .nil => .nil
  | _, _, 0, _, _, q, .cons _ r => .cons q r
  | _, _, n + 1, _, _, q, .cons h r => .cons h (r.set n q)
theorem Reps.replicate {v : V} {d : D} (h : Rep K H v d) : ∀ n : Nat, Reps K H (List.replicate n v) (List.replicate n d)
  | 0 => .nil
  | n + 1 => by rw [List.replicate_succ, List.replicate_succ]; exact .cons h (Reps.replicate h n)
theorem Reps.dropLast : ∀ {vs : List V} {ds : List D}, Reps K H vs ds → Reps K H vs.dropLast ds.dropLast := fun {vs ds} r => by
  rw [List.dropLast_eq_take, List.dropLast_eq_take, r.length]
  exact r.take _
theorem Reps.reverse : ∀ {vs : List V} {ds : List D}, Reps K H vs ds → Reps K H vs.reverse ds.reverse
  | _, _, .nil => .nil
  | _, _, .cons h r => by
    rw [List.reverse_cons, List.reverse_cons]
    exact r.reverse.append (.one h)
theorem Reps.ints : ∀ {vs : List V} {ns : List Int}, Reps K H vs (ns.map D.int) → vs = ns.map V.int
  | vs, [], r => by cases r; rfl
  | vs, n :: ns, r => by
    rw [List.map_cons] at r
    cases r with
    | cons h t => cases h; rw [t.ints, List.map_cons]
theorem Reps.bls : ∀ {vs : List V} {ns : List Bool}, Reps K H vs (ns.map D.bl) → vs = ns.map V.bl
  | vs, [], r => by cases r; rfl
  | vs, n :: ns, r => by
    rw [List.map_cons] at r
    cases r with
    | cons h t => cases h; rw [t.bls, List.map_cons]
theorem Reps.ofInts : ∀ ns : List Int, Reps K H (ns.map V.int) (ns.map D.int)
  | [] => .nil
  | n :: ns => .cons (.int n) (Reps.ofInts ns)
theorem Reps.ofBls : ∀ ns : List Bool, Reps K H (ns.map V.bl) (ns.map D.bl)
  | [] => .nil
  | n :: ns => .cons (.bl n) (Reps.ofBls ns)
end

/-! ### hidden addresses, slots, states -/
/-- no table -/
class NT (o : HO) : Prop where
  nt : ∀ ps, o ≠ .tbl ps
instance {vs : List V} : NT (.lst vs) := ⟨fun _ z => by cases z⟩
instance {vs : List V} : NT (.tup vs) := ⟨fun _ z => by cases z⟩
instance {o : Obj} {u : HO} : NT (.frz o u) := ⟨fun _ z => by cases z⟩
instance {C dx : Addr} {fs : List (Str × V)} : NT (.ins C dx fs) := ⟨fun _ z => by cases z⟩
instance {kvs : List (Key × V)} : NT (.dK kvs) := ⟨fun _ z => by cases z⟩
instance {kvs : List (Str × V)} : NT (.xd kvs) := ⟨fun _ z => by cases z⟩
open Classical in
/-- what is seen: neither what U hides nor tables -/
noncomputable def hid (U : Addr → Prop) (H : Hp) : Hp := fun a => if U a ∨ ∃ ps, H a = some (.tbl ps) then none else H a
theorem hid_of {U : Addr → Prop} {H : Hp} {a : Addr} {o : HO} [t : NT o] (n : ¬ U a) (h : H a = some o) : hid U H a = some o := by
  unfold hid
  rw [if_neg (fun z => z.elim n fun ⟨ps, z⟩ => t.nt ps (Option.some.inj (h.symm.trans z)))]; exact h
theorem of_hid {U : Addr → Prop} {H : Hp} {a : Addr} {o : HO} (h : hid U H a = some o) : ¬ U a ∧ H a = some o := by
  unfold hid at h
  split at h
  · cases h
  · rename_i n
    exact ⟨fun z => n (.inl z), h⟩
theorem nt_hid {U : Addr → Prop} {H : Hp} {a : Addr} {o : HO} (h : hid U H a = some o) : NT o := ⟨fun ps e => by
  unfold hid at h
  split at h
  · cases h
  · rename_i n
    exact n (.inr ⟨ps, by rw [h, e]⟩)⟩
theorem hid_ex {U : Addr → Prop} {H : Hp} : Ex (hid U H) H := fun _ _ h => (of_hid h).2
theorem ex_hid {U U' : Addr → Prop} {H H' : Hp} (e : ∀ a o, NT o → ¬ U a → H a = some o → ¬ U' a ∧ H' a = some o) : Ex (hid U H) (hid U' H') := fun a o h => by
  obtain ⟨n, q⟩ := of_hid h
  have t := nt_hid h
  obtain ⟨n', q'⟩ := e a o t n q
  exact hid_of n' q'
/-- all but the tables stay -/
def ExN (H H' : Hp) : Prop := ∀ a o, NT o → H a = some o → H' a = some o
theorem ExN.trans {H H1 H2 : Hp} (a : ExN H H1) (b : ExN H1 H2) : ExN H H2 := fun x o t h => b x o t (a x o t h)
theorem Ex.nt {H H' : Hp} (e : Ex H H') : ExN H H' := fun a o _ h => e a o h
/-- the lambdas' tables -/
abbrev TB (H : Hp) : Prop := LamX.Tabs lamT H
theorem TB.ex {H H' : Hp} (t : TB H) (e : Ex H H') : TB H' := LamX.Tabs.ext t e
/-- what stands where a list stood -/
theorem TB.at {H H' : Hp} {q : Addr} {vs : List V} (t : TB H) (hq : H q = some (.lst vs)) (e : ∀ a, a ≠ q → H' a = H a) : TB H' := fun p hp => by
  obtain ⟨ps, h1, h2, h3⟩ := t p hp
  refine ⟨ps, by rw [e _ (ne_of h1 hq (fun z => by cases z))]; exact h1, h2, fun pos cv hc => ?_⟩
  obtain ⟨c, e1, e2⟩ := h3 pos cv hc
  exact ⟨c, e1, by rw [e _ (ne_of e2 hq (fun z => by unfold LamX.CodeO at z; cases z))]; exact e2⟩
/-- nothing is let out -/
theorem passLN {X : Cx} : Passes (L2N.CX X.prog X.w) X E0 := fun _ _ _ _ _ _ _ h => by
  obtain ⟨_, _, _, _, _, _, _, _, _, _, _, _, z⟩ := h
  exact z.elim
/-! ### room in which no text is being made: the guards are known -/
structure Room (k : Nat) (A : Around) : Prop extends L2.Room k A where
  gd : A.guards = some []
theorem Room.mono {j k : Nat} {A : Around} (r : Room k A) (h : j ≤ k) : Room j A := ⟨r.toRoom.mono h, r.gd⟩
theorem Room.deeper {k : Nat} {A : Around} (r : Room (k + 1) A) (env : Env) : Room k (A.deeper env) := ⟨r.toRoom.deeper env, r.gd⟩
theorem Room.in1 {k : Nat} {A : Around} (r : Room (k + 1) A) : Room k A.in1 := ⟨r.toRoom.in1, r.gd⟩
theorem Room.make {k : Nat} {A : Around} (r : Room (k + 1) A) (C : Addr) (us : List Value) (kw : List (Str × Value)) : Room k (A.under (.builtin "type.__call__" ⟨.ref C :: us, kw⟩)) := ⟨r.toRoom.make C us kw, by
  have e : (Code.builtin "type.__call__" ⟨.ref C :: us, kw⟩).guards = [] := by
    unfold Code.guards
    rw [if_neg (by show ¬ guardIds.contains "type.__call__" = true; decide +kernel)]
  show pushGuards (Code.builtin "type.__call__" ⟨.ref C :: us, kw⟩).guards A.guards = some []
  rw [e, r.gd]
  rfl⟩
structure FnOk (P : Program) (w : World) (K : PySem.W.Frag) (mg : Str → Option Value) (base : Heap) (CX : CXT) (k : Nat) (f : Addr) (fd : FuncData) (ps : List Str) (sp : Sp) : Prop where
  len : ∀ vs H Q E, sp vs H Q E → vs.length = ps.length
  run : ∀ (A : Around) (outer : List Env) (s : Shared) (H : Hp) (args : Args) (us : List Value) (vs : List V) (Q : VK) (E : XK), Room k A → Env0 P w K mg base A outer s H → BindsTo s fd args (ps.zip us) → Vals vs us → sp vs H Q E → codeAny (model P w) A (.call (.ref f) args) (CR CX outer P w H s Q E) s
theorem FnOk.mono {P : Program} {w : World} {K : PySem.W.Frag} {mg : Str → Option Value} {base : Heap} {CX : CXT} {j k : Nat} {f : Addr} {fd : FuncData} {ps : List Str} {sp : Sp} (F : FnOk P w K mg base CX j f fd ps sp) (h : j ≤ k) : FnOk P w K mg base CX k f fd ps sp :=
  ⟨F.len, fun A outer s H args us vs Q E hr => F.run A outer s H args us vs Q E (hr.mono h)⟩
section
variable {X : Cx} {CX : CXT} {k : Nat} {f C : Addr} {fd : FuncData} {ps : List Str} {sp : Sp} {dvs : List V} {ds : List Value} {E : XK} {x m : Str} {p pos : Pos} {e : Expr} {es : List Expr} {t : TA}
/-- what a call's end gives the body that called -/
theorem cr_end {pins : List (Addr × Obj)} {σ : L2.St} {H : Hp} {s s' : Shared} {Q : VK} {E : XK} {r : Result} (hx : ∀ u s', CX X.stack H s E u s' → X.xe u s') (I : Inv X pins σ H s) (h : CR CX X.stack X.prog X.w H s Q E r s') : (match r with
    | .ok (.ret u) => EP X pins σ Q u s'
    | .ok _ => False
    | .error u => X.xe u s') := by
  cases r with
  | error u => exact hx u s' h
  | ok fl => cases fl <;> first | exact I.after h | exact False.elim h
theorem run_fnX {pins : List (Addr × Obj)} {σ : L2.St} {H : Hp} {s : Shared} {Q : VK} {us : List Value} {vs : List V} {E : XK} (F : FnOk X.prog X.w X.K X.mg X.base CX k f fd ps sp) (hr : Room k X.A) (hb : Binds X.K fd ps ds) (hd : Vals dvs ds) (hx : ∀ u s', CX X.stack H s E u s' → X.xe u s')
    (I : Inv X pins σ H s) (r : Vals vs us) (h : sp (vs ++ dvs) H Q E) : wpAny (model X.prog X.w) X.A (call (.ref f) us) (EP X pins σ Q) X.xe s := by
  have r2 := r.append hd
  refine wpAny_call (codeAny_mono (F.run X.A X.stack s H ⟨us, []⟩ (us ++ ds) (vs ++ dvs) Q E hr I.env0 (hb s us I.kIn (by rw [← r2.length]; exact F.len _ _ _ _ h)) r2 h) fun q s' z => ?_)
  have := cr_end hx I z
  cases q with
  | error u => exact this
  | ok fl => cases fl <;> first | exact this | exact False.elim this
theorem pe_call (F : FnOk X.prog X.w X.K X.mg X.base CX k f fd ps sp) (hr : Room k X.A) (hg : Gl X x) (hm : X.mg x = some (.ref f)) (hk : PySem.W.keepIn X.K (.ref f) = true) (hb : Binds X.K fd ps ds) (hd : Vals dvs ds) (hx : Passes CX X E)
    (ha : PA X (e :: es) t) (hdb : (x == ("__debug__" : Str)) = false := by decide) (he : starEach (e :: es) X.env = (false, eval e X.env) :: starEach es X.env := by rfl) (hpl : (backTo pos (starEach es X.env)).any (·.1) = false := by rfl) :
    PE X (.Call (.Name x p) (e :: es) [] pos) (tCall sp dvs E t) :=
  ⟨fun pins s σ H Q I h => wpAny_Call_Name_kw (ld_glob I hg hm (PySem.W.callWith_K (h₀ := X.base) I.ok.mod.kin hk (thn (ha.run pos pins s σ H _ I h) fun us s1 ⟨vs, H1, I1, r, q⟩ => ⟨I1.kIn, run_fnX F hr hb hd (fun u s' z => hx pins σ H1 s1 u s' I1 z) I1 r q⟩) he hpl) hdb)⟩
theorem pe_callS {E : L2.St → XK} (F : FnOk X.prog X.w X.K X.mg X.base CX k f fd ps sp) (hr : Room k X.A) (hg : Gl X x) (hm : X.mg x = some (.ref f)) (hk : PySem.W.keepIn X.K (.ref f) = true) (hb : Binds X.K fd ps []) (hx : ∀ σ, PassesAt CX X σ (E σ))
    (ha : PA X (e :: es) t) (hdb : (x == ("__debug__" : Str)) = false := by decide) (he : starEach (e :: es) X.env = (false, eval e X.env) :: starEach es X.env := by rfl) (hpl : (backTo pos (starEach es X.env)).any (·.1) = false := by rfl) :
    PE X (.Call (.Name x p) (e :: es) [] pos) (tCallS sp E t) :=
  ⟨fun pins s σ H Q I h => wpAny_Call_Name_kw (ld_glob I hg hm (PySem.W.callWith_K (h₀ := X.base) I.ok.mod.kin hk (thn (ha.run pos pins s σ H _ I h) fun us s1 ⟨vs, H1, I1, r, q⟩ => ⟨I1.kIn, run_fnX F hr hb .nil (fun u s' z => hx σ pins H1 s1 u s' I1 z) I1 r (by rw [List.append_nil]; exact q)⟩) he hpl) hdb)⟩
end
section
variable {X : Cx} {CX : CXT} {k : Nat} {f C : Addr} {fd : FuncData} {ps : List Str} {sp : Sp} {dvs : List V} {ds : List Value} {E : XK} {x : Str} {p pos : Pos} {e : Expr} {es : List Expr} {t : TA}
theorem pe_make (M : Mk X.K C f) (F : FnOk X.prog X.w X.K X.mg X.base CX k f fd ps sp) (hr : Room (k + 1) X.A) (hg : Gl X x) (hm : X.mg x = some (.ref C)) (hb : Binds X.K fd ps ds) (hd : Vals dvs ds) (hx : Passes CX X E)
    (ha : PA X (e :: es) t) (hdb : (x == ("__debug__" : Str)) = false := by decide) (he : starEach (e :: es) X.env = (false, eval e X.env) :: starEach es X.env := by rfl) (hpl : (backTo pos (starEach es X.env)).any (·.1) = false := by rfl) :
    PE X (.Call (.Name x p) (e :: es) [] pos) (tMake C sp dvs E t) :=
  ⟨fun pins s σ H Q I h => wpAny_Call_Name_kw (ld_glob I hg hm (PySem.W.callWith_K (h₀ := X.base) I.ok.mod.kin M.kp (thn (ha.run pos pins s σ H _ I h) fun us s1 ⟨vs, H1, I1, r, q⟩ => ⟨I1.kIn, by
    have hq := q (s1.heap.objs.size + 1) s1.heap.objs.size (I1.hok.fresh (Nat.le_succ _)) (I1.hok.fresh (Nat.le_refl _)) (Nat.ne_of_lt (Nat.lt_succ_self _))
    have I2 := Inv.made (C := C) I1
    have r2 : Vals (V.ref (s1.heap.objs.size + 1) :: (vs ++ dvs)) (Value.ref (s1.heap.objs.size + 1) :: (us ++ ds)) := .cons rfl (r.append hd)
    refine wpAny_call (make_map (f := f) I1.kIn M.makes M.init (beq_iff_eq.mp M.fn) (codeAny_mono (F.run _ X.stack _ _ ⟨Value.ref (s1.heap.objs.size + 1) :: us, []⟩ (Value.ref (s1.heap.objs.size + 1) :: (us ++ ds)) _ _ E (hr.make C us [])
      (I2.env0.make C us []) (hb _ (Value.ref (s1.heap.objs.size + 1) :: us) I2.kIn (by rw [show Value.ref (s1.heap.objs.size + 1) :: us ++ ds = Value.ref (s1.heap.objs.size + 1) :: (us ++ ds) from rfl, ← r2.length]; exact F.len _ _ _ _ hq)) r2 hq) fun z s' hz => ?_))
    have := cr_end (fun u s' y => hx pins σ _ _ u s' I2 y) I2 hz
    cases z with
    | error u => exact this
    | ok fl =>
      cases fl with
      | ret u =>
        obtain ⟨v, H', I3, rv, ev, q3⟩ := this
        subst ev
        exact ⟨rv, ⟨V.ref (s1.heap.objs.size + 1), H', I3, rfl, q3⟩⟩
      | _ => exact this.elim⟩) he hpl) hdb)⟩
end
/-- a def, from its body: the guards are known within -/
theorem fn_ofG {CX : CXT} {P : Program} {w : World} {K : PySem.W.Frag} {mg : Str → Option Value} {base : Heap} {k : Nat} {f : Addr} {name qual : Str} {params : Arguments} {body : List Stmt} {scope : Scope} {dV kV doc pm cdv ct oc : Value} {an od : Option Addr}
    {osl : Array (Option Value)} {N ps : List Str} {sp : Sp} (lk : K.lookup f = some ⟨oc, od, .func (PySem.W.fnOf name qual params body scope dV kV doc pm an cdv ct), osl⟩) (hcd : PySem.W.codeIn K cdv qual = true) (S : FnScope N ps scope)
    (len : ∀ vs H Q E, sp vs H Q E → vs.length = ps.length)
    (hbody : ∀ (A : Around) (outer : List Env) (s : Shared) (H : Hp) (vs : List V) (Q : VK) (E : XK), Room k (A.deeper (envOfC qual scope s.heap.objs.size f cdv)) → sp vs H Q E →
      ∃ t, PSs (cxOf CX P w K mg base N qual scope f cdv A outer s H E) body t ∧ t { nx := fun _ H' => Q .non H', rt := Q } (start N vs) H) :
    FnOk P w K mg base CX (k + 1) f (PySem.W.fnOf name qual params body scope dV kV doc pm an cdv ct) ps sp where
  len := len
  run A outer s H args us vs Q E hr e0 hb r hsp := by
    have kept : ∀ b o, base.get? b = some o → s.heap.get? b = some o := fun b o e => (e0.bs b o e).1
    have KX := e0.mod.kin.keeps kept
    refine codeAny_call_function hr.toRoom.depth (KX _ _ lk) rfl S.co S.gen rfl (PySem.W.codeRec_of KX hcd) (hb _ _ _ _ (wpAny_newFunctionEnv_cells S.kind (fun ⟨n, v⟩ hy => (S.par n (List.of_mem_zip hy).1).imp id fun q => ⟨q, PySem.W.cellsFrom_some _ _ _ (.inl q)⟩) fun env he s1 x => ?_))
    subst he
    obtain ⟨t, ht, hq⟩ := hbody A outer s H vs Q E (hr.deeper _) hsp
    have I : Inv (cxOf CX P w K mg base N qual scope f cdv A outer s H E) [] (start N vs) H s1 := inv_start S hr.hd e0 (len _ _ _ _ hsp) r x
    refine ⟨(e0.mod.nolimit.keeps kept).keeps x.toInCall.keep, codeAny_func (wpAny_mono (ht.run [] s1 (start N vs) H _ I hq) (fun fl s' hs => ?_) fun _ _ hs => hs)⟩
    have fin : ∀ {σ' : L2.St} {H' : Hp} {v : V} {u : Value}, Inv (cxOf CX P w K mg base N qual scope f cdv A outer s H E) [] σ' H' s' → RelV v u → Q v H' → L2.CE outer P w H s Q u s' := fun J rv q => ⟨_, _, J.os, J.bare, J.base, J.hok, rv, q⟩
    cases fl with
    | ret u => obtain ⟨v, σ', H', J, rv, q⟩ := hs; exact fin J rv q
    | next => obtain ⟨σ', H', J, q⟩ := hs; exact fin (v := V.non) (u := Value.none) J rfl q
    | brk => obtain ⟨_, _, _, q⟩ := hs; exact q.elim
    | cont => obtain ⟨_, _, _, q⟩ := hs; exact q.elim
theorem Fun.okXN {P : Program} {w : World} {K : PySem.W.Frag} {mg : Str → Option Value} {base : Heap} {x qual : Str} {st : Stmt} {f : Addr} {fd : FuncData} {N ps : List Str} {k : Nat} {sp : Sp} (F : Fun K x qual st f fd) (S : FnScope N ps (defScope st)) (len : ∀ vs H Q E, sp vs H Q E → vs.length = ps.length)
    (hbody : ∀ (cdv : Value) (A : Around) (outer : List Env) (s : Shared) (H : Hp) (vs : List V) (Q : VK) (E : XK), Room k (A.deeper (envOfC qual (defScope st) s.heap.objs.size f cdv)) → sp vs H Q E →
      ∃ t, PSs (cxOf (L2N.CX P w) P w K mg base N qual (defScope st) f cdv A outer s H E) (defBody st) t ∧ t { nx := fun _ H' => Q .non H', rt := Q } (start N vs) H) : FnOk P w K mg base (L2N.CX P w) (k + 1) f fd ps sp := by
  obtain ⟨oc, od, kV, doc, pm, an, cdv, ct, osl, rfl, lk, hcd⟩ := F.ex
  exact fn_ofG lk hcd S len fun A outer s H vs Q E hr hsp => hbody cdv A outer s H vs Q E hr hsp
theorem Fun.okXC {P : Program} {w : World} {K : PySem.W.Frag} {mg : Str → Option Value} {base : Heap} {x qual : Str} {st : Stmt} {f : Addr} {fd : FuncData} {N ps : List Str} {k : Nat} {sp : Sp} (F : Fun K x qual st f fd) (S : FnScope N ps (defScope st)) (len : ∀ vs H Q E, sp vs H Q E → vs.length = ps.length)
    (hbody : ∀ (cdv : Value), fd.code = cdv → ∀ (A : Around) (outer : List Env) (s : Shared) (H : Hp) (vs : List V) (Q : VK) (E : XK), Room k (A.deeper (envOfC qual (defScope st) s.heap.objs.size f cdv)) → sp vs H Q E →
      ∃ t, PSs (cxOf (L2N.CX P w) P w K mg base N qual (defScope st) f cdv A outer s H E) (defBody st) t ∧ t { nx := fun _ H' => Q .non H', rt := Q } (start N vs) H) : FnOk P w K mg base (L2N.CX P w) (k + 1) f fd ps sp := by
  obtain ⟨oc, od, kV, doc, pm, an, cdv, ct, osl, rfl, lk, hcd⟩ := F.ex
  exact fn_ofG lk hcd S len fun A outer s H vs Q E hr hsp => hbody cdv rfl A outer s H vs Q E hr hsp
/-- an own exception with an __init__ -/
theorem pmk_oexN {X : Cx} {e : Expr} {es : List Expr} {ta : TA} {p pos : Pos} {CX : CXT} {x : Str} {C fI : Addr} {k : Nat} {fd : FuncData} {ps : List Str} {sp : Sp} {ds : List Value} {dvs : List V} (T : OexC X.K C) (iC : PySem.W.findIn X.K (.ref C) "__init__" = some (some (.ref fI))) (tI : PySem.W.typeIn X.K (.ref fI) = some (.type "function"))
    (F1 : FnOk X.prog X.w X.K X.mg X.base CX k fI fd ps sp) (hr : Room (k + 1) X.A) (hb : Binds X.K fd ps ds) (hd : Vals dvs ds) (hx : Passes CX X (fun _ _ _ => False)) (hg : Gl X x) (hm : X.mg x = some (.ref C)) (ha : PA X (e :: es) ta)
    (hdb : (x == ("__debug__" : Str)) = false := by decide) (he : starEach (e :: es) X.env = (false, eval e X.env) :: starEach es X.env := by rfl) (hpl : (backTo pos (starEach es X.env)).any (·.1) = false := by rfl) :
    L2N.PMk X (.Call (.Name x p) (e :: es) [] pos) (tMkO C sp dvs ta) := by
  intro pins s σ H Q I h
  obtain ⟨nm, q, N, bs, bm, sn, sub, ab, col, dd, k0, k1, k2, k3, k5, hC, hbm⟩ := T.cls
  refine wpAny_Call_Name_kw (ld_glob I hg hm ?_ hdb)
  refine PySem.W.callWith_K (h₀ := X.base) I.ok.mod.kin T.kC (thn (ha.run pos pins s σ H _ I h) fun us s1 ⟨vs, H1, I1, r1, hz, q1⟩ => ⟨I1.kIn, ?_⟩) he hpl
  show wpAny _ _ (call (.ref C) us) _ _ _
  obtain ⟨hp, g, dr, tk, os⟩ := s1
  have hsz : hp.objs.size ≤ hp.objs.size + 1 := Nat.le_succ _
  have hn : H1 (hp.objs.size + 1) = none := I1.hok.fresh hsz
  have hq := q1 (hp.objs.size + 1) hn
  have kk : ∀ b o, hp.get? b = some o → ((hp.push (PySem.W.kdv_tup us)).push (PySem.HandSPX.excO C hp.objs.size)).get? b = some o := fun b o e => Heap.get?_push_of_some _ (Heap.get?_push_of_some _ e)
  have hget : ((hp.push (PySem.W.kdv_tup us)).push (PySem.HandSPX.excO C hp.objs.size)).get? (hp.objs.size + 1) = some (PySem.HandSPX.excO C hp.objs.size) := by heap_get
  have I2 : Inv X pins σ (upd H1 (hp.objs.size + 1) (exo (hp.objs.size + 1) C none)) ⟨(hp.push (PySem.W.kdv_tup us)).push (PySem.HandSPX.excO C hp.objs.size), g, dr, tk, os⟩ :=
    I1.laid (t' := tk) (a := hp.objs.size + 1) (o := exo (hp.objs.size + 1) C none) (h' := (hp.push (PySem.W.kdv_tup us)).push (PySem.HandSPX.excO C hp.objs.size)) kk hsz (exo_ok hget)
  have r2 : Vals (V.ref (hp.objs.size + 1) :: (vs ++ dvs)) (Value.ref (hp.objs.size + 1) :: (us ++ ds)) := .cons rfl (r1.append hd)
  have hl : (Value.ref (hp.objs.size + 1) :: us ++ ds).length = ps.length := by
    have e := r2.length
    rw [F1.len _ _ _ _ hq] at e
    exact e.symm
  have hus : us.length ≤ sizeLine := by
    rw [← Paired.length r1, sizeLine_eq]
    omega
  refine wpAny_call (PySem.HandSPX.call_own F.excBase_ValueError (fun Y => PySem.HandSPX.refsVE_contains Y bm hbm) (I1.kIn _ _ hC) (PySem.W.looks_findIn I1.kIn iC) (fun self => PySem.W.bind_fn I1.kIn self tI) hus
    (codeAny_mono (F1.run _ X.stack _ _ ⟨Value.ref (hp.objs.size + 1) :: us, []⟩ (Value.ref (hp.objs.size + 1) :: (us ++ ds)) _ _ (fun _ _ _ => False) (hr.make C us []) (I2.env0.make C us []) (hb _ (Value.ref (hp.objs.size + 1) :: us) I2.kIn hl) r2 hq) fun r s' hq' => ?_))
  cases r with
  | error er => exact hx pins σ _ _ er s' I2 hq'
  | ok fl =>
    cases fl with
    | ret u =>
      obtain ⟨v, H2, os2, bare2, un2, hok2, rv, ev, d, fs, ea, ed, hd1, q2⟩ := hq'
      subst ev
      obtain ⟨h2, g2, d2, t2, os'⟩ := s'
      obtain ⟨t0, G, J, kG, ge, hoe, na⟩ := mk_end0 (d2 := d2) (t2 := t2) I1 hsz kk un2 hok2 os2 bare2 ea ed hd1
      exact ⟨rv, _, _, _, ⟨G, g2, d2, t2, os'⟩, _, .ref C, some d, rfl, J, kG, ge, hoe, ⟨rfl, rfl, fun vs e => by cases e; rfl⟩, rfl, rfl, na, rfl, bare2, raises_own T.exC T.tyC, q2⟩
    | next => exact False.elim hq'
    | brk => exact False.elim hq'
    | cont => exact False.elim hq'

inductive Sl where
  | un | dat (d : D) | mut (p : Addr) (ds : List D)
abbrev Lo := List Sl
def owns (ρ : Lo) (a : Addr) : Prop := ∃ ds, Sl.mut a ds ∈ ρ
def UU (O : Addr → Prop) (ρ : Lo) (a : Addr) : Prop := O a ∨ owns ρ a
open Classical in
/-- what is known but the own lists -/
noncomputable def sup (ρ : Lo) (H : Hp) : Hp := hid (owns ρ) H

structure SOk (K : PySem.W.Frag) (F : Hp) (O : Addr → Prop) (ρ : Lo) (σ : L2.St) (H : Hp) : Prop where
  len : σ.length = ρ.length
  dat : ∀ (i : Nat) d, ρ[i]? = some (.dat d) → ∃ v, σ[i]? = some (some v) ∧ Rep K (hid (UU O ρ) H) v d
  mt : ∀ (i : Nat) p ds, ρ[i]? = some (.mut p ds) → σ[i]? = some (some (.ref p)) ∧ F p = none ∧ ∃ vs, H p = some (.lst vs) ∧ Reps K (hid (UU O ρ) H) vs ds
  nd : ∀ (i j : Nat) p ds ds', ρ[i]? = some (.mut p ds) → ρ[j]? = some (.mut p ds') → i = j
  fr : Ex F H
  od : ∀ a, O a → ∃ o, F a = some o
  tb : TB H
  ft : ∀ a o, F a = some o → NT o
section
variable {K : PySem.W.Frag} {F F' : Hp} {O : Addr → Prop} {ρ ρ' : Lo} {σ : L2.St} {H H' : Hp}
theorem SOk.own (I : SOk K F O ρ σ H) {a : Addr} (h : owns ρ a) : F a = none := by
  obtain ⟨ds, h⟩ := h
  obtain ⟨i, h⟩ := List.getElem?_of_mem h
  exact (I.mt i a ds h).2.1
theorem SOk.ownH (I : SOk K F O ρ σ H) {a : Addr} (h : owns ρ a) : ∃ vs, H a = some (.lst vs) := by
  obtain ⟨ds, h⟩ := h
  obtain ⟨i, h⟩ := List.getElem?_of_mem h
  obtain ⟨_, _, vs, e, _⟩ := I.mt i a ds h
  exact ⟨vs, e⟩
theorem SOk.nO (I : SOk K F O ρ σ H) {a : Addr} (h : owns ρ a) : ¬ O a := fun o => by
  obtain ⟨u, e⟩ := I.od a o
  rw [I.own h] at e
  cases e
/-- more is held fast -/
theorem SOk.sup (I : SOk K F O ρ σ H) : SOk K (sup ρ H) O ρ σ H where
  len := I.len
  dat := I.dat
  mt := fun i p ds e => by
    obtain ⟨h1, h2, h3⟩ := I.mt i p ds e
    refine ⟨h1, ?_, h3⟩
    unfold VL.sup hid
    rw [if_pos (.inl ⟨ds, List.mem_of_getElem? e⟩)]
  nd := I.nd
  fr := hid_ex
  od := fun a o => by
    obtain ⟨u, e⟩ := I.od a o
    have := I.ft a u e
    exact ⟨u, hid_of (fun z => I.nO z o) (I.fr a u e)⟩
  tb := I.tb
  ft := fun _ _ h => nt_hid h
theorem SOk.le_sup (I : SOk K F O ρ σ H) : Ex F (VL.sup ρ H) := fun a o e => have := I.ft a o e; hid_of (fun z => by rw [I.own z] at e; cases e) (I.fr a o e)
/-- .. less -/
theorem SOk.weak (I : SOk K F' O ρ σ H) (e : Ex F F') (od : ∀ a, O a → ∃ o, F a = some o) : SOk K F O ρ σ H where
  len := I.len
  dat := I.dat
  mt := fun i p ds h => by
    obtain ⟨h1, h2, h3⟩ := I.mt i p ds h
    refine ⟨h1, ?_, h3⟩
    cases q : F p with
    | none => rfl
    | some o => rw [e p o q] at h2; cases h2
  nd := I.nd
  fr := e.trans I.fr
  od := od
  tb := I.tb
  ft := fun a o h => I.ft a o (e a o h)
/-- a datum seen at H is seen behind what keeps sup ρ H -/
theorem SOk.keep {v : V} {d : D} (ow : owns ρ' = owns ρ) (J : SOk K (VL.sup ρ H) O ρ' σ H') (r : Rep K (hid (UU O ρ) H) v d) : Rep K (hid (UU O ρ') H') v d := by
  refine r.mono (ex_hid fun a o _ n h => ⟨?_, J.fr a o (hid_of (fun z => n (Or.inr z)) h)⟩)
  unfold UU at n ⊢
  rw [ow]
  exact n
theorem SOk.keeps {v : List V} {d : List D} (ow : owns ρ' = owns ρ) (J : SOk K (VL.sup ρ H) O ρ' σ H') (r : Reps K (hid (UU O ρ) H) v d) : Reps K (hid (UU O ρ') H') v d := by
  refine r.mono (ex_hid fun a o _ n h => ⟨?_, J.fr a o (hid_of (fun z => n (Or.inr z)) h)⟩)
  unfold UU at n ⊢
  rw [ow]
  exact n
/-- a new object beside -/
theorem SOk.new {p : Addr} {o : HO} (I : SOk K F O ρ σ H) (hp : H p = none) : SOk K F O ρ σ (upd H p o) := by
  have ex : Ex H (upd H p o) := fun a u e => by rw [upd_ne (ne_of_none e hp)]; exact e
  have exh : Ex (hid (UU O ρ) H) (hid (UU O ρ) (upd H p o)) := ex_hid fun a u _ n h => ⟨n, ex a u h⟩
  refine ⟨I.len, fun i d e => ?_, fun i q ds e => ?_, I.nd, I.fr.trans ex, I.od, I.tb.ex ex, I.ft⟩
  · obtain ⟨v, h1, h2⟩ := I.dat i d e
    exact ⟨v, h1, h2.mono exh⟩
  · obtain ⟨h1, h2, vs, h3, h4⟩ := I.mt i q ds e
    exact ⟨h1, h2, vs, ex _ _ h3, h4.mono exh⟩
theorem SOk.nU {p : Addr} (I : SOk K F O ρ σ H) (hp : H p = none) : ¬ UU O ρ p := fun z => by
  rcases z with z | z
  · obtain ⟨u, e⟩ := I.od p z
    rw [I.fr p u e] at hp
    cases hp
  · obtain ⟨vs, e⟩ := I.ownH z
    rw [e] at hp
    cases hp
theorem SOk.newHid {p : Addr} {o : HO} [NT o] (I : SOk K F O ρ σ H) (hp : H p = none) : hid (UU O ρ) (upd H p o) p = some o := hid_of (I.nU hp) upd_same
theorem ex_new {U : Addr → Prop} {p : Addr} {o : HO} (hp : H p = none) : Ex (hid U H) (hid U (upd H p o)) := ex_hid fun a u _ n h => ⟨n, by rw [upd_ne (ne_of_none h hp)]; exact h⟩
end

/-! ### what evaluates to what -/
def EV (K : PySem.W.Frag) (t : TE) (ρ : Lo) (d : D) (ρ' : Lo) : Prop := owns ρ' = owns ρ ∧
  ∀ F O σ H (Q : VK), SOk K F O ρ σ H → (∀ v H', SOk K F O ρ' σ H' → Rep K (hid (UU O ρ') H') v d → Q v H') → t σ H Q
/-- a new list -/
def EN (K : PySem.W.Frag) (t : TE) (ρ : Lo) (ds : List D) (ρ' : Lo) : Prop := owns ρ' = owns ρ ∧
  ∀ F O σ H (Q : VK), SOk K F O ρ σ H → (∀ p vs H1, SOk K F O ρ' σ H1 → H1 p = none → Reps K (hid (UU O ρ') H1) vs ds → Q (.ref p) (upd H1 p (.lst vs))) → t σ H Q
def ET (K : PySem.W.Frag) (t : TT) (ρ : Lo) (b : Bool) (ρ' : Lo) : Prop := owns ρ' = owns ρ ∧
  ∀ F O σ H (Q : Bool → Hp → Prop), SOk K F O ρ σ H → (∀ H', SOk K F O ρ' σ H' → Q b H') → t σ H Q
/-- an argument: a datum, or the own list of a slot -/
inductive Ar where
  | dat (d : D) | own (i : Nat)
def ARep (K : PySem.W.Frag) (O : Addr → Prop) (ρ : Lo) (H : Hp) : V → Ar → Prop
  | v, .dat d => Rep K (hid (UU O ρ) H) v d
  | v, .own i => ∃ p ds, ρ[i]? = some (.mut p ds) ∧ v = .ref p
abbrev AReps (K : PySem.W.Frag) (O : Addr → Prop) (ρ : Lo) (H : Hp) : List V → List Ar → Prop := Paired (ARep K O ρ H)
def EA (K : PySem.W.Frag) (t : TA) (ρ : Lo) (as : List Ar) (ρ' : Lo) : Prop := owns ρ' = owns ρ ∧
  ∀ F O σ H (Q : List V → Hp → Prop), SOk K F O ρ σ H → (∀ vs H', SOk K F O ρ' σ H' → AReps K O ρ' H' vs as → Q vs H') → t σ H Q
/-- data alone -/
def ED (K : PySem.W.Frag) (t : TA) (ρ : Lo) (ds : List D) (ρ' : Lo) : Prop := owns ρ' = owns ρ ∧
  ∀ F O σ H (Q : List V → Hp → Prop), SOk K F O ρ σ H → (∀ vs H', SOk K F O ρ' σ H' → Reps K (hid (UU O ρ') H') vs ds → Q vs H') → t σ H Q

section
variable {K : PySem.W.Frag} {F : Hp} {O : Addr → Prop} {ρ ρ1 ρ2 : Lo} {σ : L2.St} {H : Hp} {ta tb te : TE} {x y z d : D}
theorem EN.ev {ds : List D} (h : EN K te ρ ds ρ1) : EV K te ρ (.lst ds) ρ1 := ⟨h.1, fun F O σ H Q I q => h.2 F O σ H Q I fun p vs H1 J hp r =>
  q _ _ (J.new hp) (.lst (J.newHid hp) (r.mono (ex_new hp)))⟩
theorem ev2 (ha : EV K ta ρ x ρ1) (hb : EV K tb ρ1 y ρ2) (I : SOk K F O ρ σ H) {R : V → V → Hp → Prop}
    (q : ∀ v w H2, SOk K F O ρ2 σ H2 → Rep K (hid (UU O ρ2) H2) v x → Rep K (hid (UU O ρ2) H2) w y → R v w H2) : ta σ H fun v H1 => tb σ H1 fun w H2 => R v w H2 :=
  ha.2 F O σ H _ I fun v H1 J r => hb.2 _ O σ H1 _ J.sup fun w H2 L r2 => q v w H2 (L.weak J.le_sup J.od) (SOk.keep hb.1 L r) r2
theorem ev3 {tc : TE} {ρ3 : Lo} (ha : EV K ta ρ x ρ1) (hb : EV K tb ρ1 y ρ2) (hc : EV K tc ρ2 z ρ3) (I : SOk K F O ρ σ H) {R : V → V → V → Hp → Prop}
    (q : ∀ v w u H2, SOk K F O ρ3 σ H2 → Rep K (hid (UU O ρ3) H2) v x → Rep K (hid (UU O ρ3) H2) w y → Rep K (hid (UU O ρ3) H2) u z → R v w u H2) : ta σ H fun v H1 => tb σ H1 fun w H2 => tc σ H2 fun u H3 => R v w u H3 :=
  ha.2 F O σ H _ I fun v H1 J r => hb.2 _ O σ H1 _ J.sup fun w H2 L r2 => hc.2 _ O σ H2 _ L.sup fun u H3 M r3 =>
    q v w u H3 ((M.weak L.le_sup L.od).weak J.le_sup J.od) (SOk.keep hc.1 M (SOk.keep hb.1 L r)) (SOk.keep hc.1 M r2) r3
/-- a two-place operation on data -/
def OpD (K : PySem.W.Frag) (r : R2) (x y z : D) : Prop := ∀ F O ρ σ H v w (Q : VK), SOk K F O ρ σ H → Rep K (hid (UU O ρ) H) v x → Rep K (hid (UU O ρ) H) w y →
  (∀ u H', SOk K F O ρ σ H' → Rep K (hid (UU O ρ) H') u z → Q u H') → r v w H Q
theorem ev_op {r : R2} (hd : OpD K r x y z) (ha : EV K ta ρ x ρ1) (hb : EV K tb ρ1 y ρ2) : EV K (tOp r ta tb) ρ z ρ2 :=
  ⟨hb.1.trans ha.1, fun F O σ H Q I q => ev2 ha hb I fun v w H2 J r1 r2 => hd F O ρ2 σ H2 v w Q J r1 r2 q⟩
/-- .. that makes a new list -/
def OpN (K : PySem.W.Frag) (r : R2) (x y : D) (ds : List D) : Prop := ∀ F O ρ σ H v w (Q : VK), SOk K F O ρ σ H → Rep K (hid (UU O ρ) H) v x → Rep K (hid (UU O ρ) H) w y →
  (∀ p vs H1, SOk K F O ρ σ H1 → H1 p = none → Reps K (hid (UU O ρ) H1) vs ds → Q (.ref p) (upd H1 p (.lst vs))) → r v w H Q
theorem en_op {r : R2} {ds : List D} (hd : OpN K r x y ds) (ha : EV K ta ρ x ρ1) (hb : EV K tb ρ1 y ρ2) : EN K (tOp r ta tb) ρ ds ρ2 :=
  ⟨hb.1.trans ha.1, fun F O σ H Q I q => ev2 ha hb I fun v w H2 J r1 r2 => hd F O ρ2 σ H2 v w Q J r1 r2 q⟩
theorem opd_I0 {g : Int → Int → D} {gv : Int → Int → V} {i j : Int} (hg : ∀ H, Rep K H (gv i j) (g i j)) : OpD K (rI0 gv) (.int i) (.int j) (g i j) := fun F O ρ σ H v w Q I rv rw' q => by
  cases rv; cases rw'
  exact ⟨i, j, rfl, rfl, q _ _ I (hg _)⟩
theorem opd_I {C : Int → Int → Prop} {g : Int → Int → D} {gv : Int → Int → V} {i j : Int} (hc : C i j) (hg : ∀ H, Rep K H (gv i j) (g i j)) : OpD K (rI C gv) (.int i) (.int j) (g i j) := fun F O ρ σ H v w Q I rv rw' q => by
  cases rv; cases rw'
  exact ⟨i, j, rfl, rfl, hc, q _ _ I (hg _)⟩
/-- a call on data -/
def CbD (K : PySem.W.Frag) (r : List V → Hp → VK → Prop) (ds : List D) (z : D) : Prop := ∀ F O ρ σ H vs (Q : VK), SOk K F O ρ σ H → Reps K (hid (UU O ρ) H) vs ds →
  (∀ u H', SOk K F O ρ σ H' → Rep K (hid (UU O ρ) H') u z → Q u H') → r vs H Q
def CbN (K : PySem.W.Frag) (r : List V → Hp → VK → Prop) (ds : List D) (es : List D) : Prop := ∀ F O ρ σ H vs (Q : VK), SOk K F O ρ σ H → Reps K (hid (UU O ρ) H) vs ds →
  (∀ p ws H1, SOk K F O ρ σ H1 → H1 p = none → Reps K (hid (UU O ρ) H1) ws es → Q (.ref p) (upd H1 p (.lst ws))) → r vs H Q
theorem ev_cb {r : List V → Hp → VK → Prop} {t : TA} {ds : List D} (hd : CbD K r ds z) (h : ED K t ρ ds ρ1) : EV K (tCB r t) ρ z ρ1 :=
  ⟨h.1, fun F O σ H Q I q => h.2 F O σ H _ I fun vs H1 J r1 => hd F O ρ1 σ H1 vs Q J r1 q⟩
theorem en_cb {r : List V → Hp → VK → Prop} {t : TA} {ds es : List D} (hd : CbN K r ds es) (h : ED K t ρ ds ρ1) : EN K (tCB r t) ρ es ρ1 :=
  ⟨h.1, fun F O σ H Q I q => h.2 F O σ H _ I fun vs H1 J r1 => hd F O ρ1 σ H1 vs Q J r1 q⟩
theorem ed_nil : ED K tNil ρ [] ρ := ⟨rfl, fun F O σ H Q I q => q [] H I .nil⟩
theorem ed_cons {t : TA} {ds : List D} (h : EV K te ρ d ρ1) (hr : ED K t ρ1 ds ρ2) : ED K (tCons te t) ρ (d :: ds) ρ2 :=
  ⟨hr.1.trans h.1, fun F O σ H Q I q => h.2 F O σ H _ I fun v H1 J r => hr.2 _ O σ H1 _ J.sup fun vs H2 L rs => q _ H2 (L.weak J.le_sup J.od) (.cons (SOk.keep hr.1 L r) rs)⟩
theorem ea_nil : EA K tNil ρ [] ρ := ⟨rfl, fun F O σ H Q I q => q [] H I .nil⟩
end
end VL
end

section
set_option Elab.async false
set_option linter.all false
set_option maxRecDepth 100000
set_option maxHeartbeats 4000000
namespace VL
open PySem PySem.Spec PyProof.Rows L2

/-! ### the judgements over the text -/
def tw (X : Cx) (e : Expr) : TE := fun σ H Q => ∀ (pins : List (Addr × Obj)) (s : Shared), Inv X pins σ H s → wpAny (model X.prog X.w) X.A (eval e X.env) (EP X pins σ Q) X.xe s
def twT (X : Cx) (e : Expr) : TT := fun σ H Q => ∀ (pins : List (Addr × Obj)) (s : Shared), Inv X pins σ H s → wpAny (model X.prog X.w) X.A (isTrue e X.env (eval e X.env)) (TP X pins σ Q) X.xe s
def twW (X : Cx) (e : Expr) : TT := fun σ H Q => ∀ (wh : Sem Value) (pins : List (Addr × Obj)) (s : Shared), Inv X pins σ H s → wpAny (model X.prog X.w) X.A (isTrue e X.env wh) (TP X pins σ Q) X.xe s
def twA (X : Cx) (es : List Expr) : TA := fun σ H Q => ∀ (pos : Pos) (pins : List (Addr × Obj)) (s : Shared), Inv X pins σ H s → wpAny (model X.prog X.w) X.A (spliced (backTo pos (starEach es X.env))) (AP X pins σ Q) X.xe s
section
variable {X : Cx} {e a b c : Expr} {es : List Expr}
theorem pe_tw : PE X e (tw X e) := ⟨fun pins s _ _ _ I h => h pins s I⟩
theorem pt_tw : PT X e (twT X e) := ⟨fun pins s _ _ _ I h => h pins s I⟩
theorem pw_tw : PW X e (twW X e) := ⟨fun wh pins s _ _ _ I h => h wh pins s I⟩
theorem pa_tw : PA X es (twA X es) := ⟨fun pos pins s _ _ _ I h => h pos pins s I⟩
def CE (X : Cx) (ρ : Lo) (e : Expr) (d : D) (ρ' : Lo) : Prop := EV X.K (tw X e) ρ d ρ'
def CN (X : Cx) (ρ : Lo) (e : Expr) (ds : List D) (ρ' : Lo) : Prop := EN X.K (tw X e) ρ ds ρ'
def CT (X : Cx) (ρ : Lo) (e : Expr) (b : Bool) (ρ' : Lo) : Prop := ET X.K (twT X e) ρ b ρ'
def CW (X : Cx) (ρ : Lo) (e : Expr) (b : Bool) (ρ' : Lo) : Prop := ET X.K (twW X e) ρ b ρ'
def CD (X : Cx) (ρ : Lo) (es : List Expr) (ds : List D) (ρ' : Lo) : Prop := ED X.K (twA X es) ρ ds ρ'
def CA (X : Cx) (ρ : Lo) (es : List Expr) (as : List Ar) (ρ' : Lo) : Prop := EA X.K (twA X es) ρ as ρ'
variable {ρ ρ1 ρ2 ρ3 : Lo} {x y z d : D} {pos p : Pos}
theorem CE.of {t : TE} (h : PE X e t) (v : EV X.K t ρ d ρ1) : CE X ρ e d ρ1 := ⟨v.1, fun F O σ H Q I q pins s J => h.run pins s σ H Q J (v.2 F O σ H Q I q)⟩
theorem CN.of {t : TE} {ds : List D} (h : PE X e t) (v : EN X.K t ρ ds ρ1) : CN X ρ e ds ρ1 := ⟨v.1, fun F O σ H Q I q pins s J => h.run pins s σ H Q J (v.2 F O σ H Q I q)⟩
theorem CT.of {t : TT} {k : Bool} (h : PT X e t) (v : ET X.K t ρ k ρ1) : CT X ρ e k ρ1 := ⟨v.1, fun F O σ H Q I q pins s J => h.run pins s σ H Q J (v.2 F O σ H Q I q)⟩
theorem CW.of {t : TT} {k : Bool} (h : PW X e t) (v : ET X.K t ρ k ρ1) : CW X ρ e k ρ1 := ⟨v.1, fun F O σ H Q I q wh pins s J => h.run wh pins s σ H Q J (v.2 F O σ H Q I q)⟩
theorem CD.of {t : TA} {ds : List D} (h : PA X es t) (v : ED X.K t ρ ds ρ1) : CD X ρ es ds ρ1 := ⟨v.1, fun F O σ H Q I q pos pins s J => h.run pos pins s σ H Q J (v.2 F O σ H Q I q)⟩
theorem CA.of {t : TA} {as : List Ar} (h : PA X es t) (v : EA X.K t ρ as ρ1) : CA X ρ es as ρ1 := ⟨v.1, fun F O σ H Q I q pos pins s J => h.run pos pins s σ H Q J (v.2 F O σ H Q I q)⟩
theorem CN.ce {ds : List D} (h : CN X ρ e ds ρ1) : CE X ρ e (.lst ds) ρ1 := EN.ev h
theorem CE.eq (h : CE X ρ e x ρ1) (q : x = y) : CE X ρ e y ρ1 := q ▸ h
theorem CN.eq {xs ys : List D} (h : CN X ρ e xs ρ1) (q : xs = ys) : CN X ρ e ys ρ1 := q ▸ h
theorem CT.eq {j k : Bool} (h : CT X ρ e j ρ1) (q : j = k) : CT X ρ e k ρ1 := q ▸ h

/-! ### names, constants -/
theorem c_var (i : Nat) {n : Str} (hd : ρ[i]? = some (.dat d) := by rfl) (hN : X.N[i]? = some n := by rfl) (hv : Vis X.env.scope n := by first | exact Or.inl rfl | exact Or.inr (Or.inl rfl) | exact Or.inr (Or.inr rfl))
    (h1 : (n == ("__debug__" : Str)) = false := by decide) (h2 : (n == ("__classdict__" : Str)) = false := by decide) : CE X ρ (.Name n p) d ρ :=
  .of (pe_var hN hv h1 h2) ⟨rfl, fun F O σ H Q I q => by
    obtain ⟨v, h1, h2⟩ := I.dat i d hd
    exact ⟨v, h1, q v H I h2⟩⟩
theorem ev_c {v : V} (r : ∀ H, Rep X.K H v d) : EV X.K (tC v) ρ d ρ := ⟨rfl, fun F O σ H Q I q => q v H I (r _)⟩
theorem c_int {i : Int} {j} : CE X ρ (.Constant (.int i) j pos) (.int i) ρ := .of pe_int (ev_c fun _ => .int i)
theorem c_bl {i : Bool} {j} : CE X ρ (.Constant (.bool i) j pos) (.bl i) ρ := .of pe_bl (ev_c fun _ => .bl i)
theorem c_non {j} : CE X ρ (.Constant .none j pos) .non ρ := .of pe_non (ev_c fun _ => .non)
theorem c_str {i : Str} {j} : CE X ρ (.Constant (.str i) j pos) (.str i) ρ := .of pe_str (ev_c fun _ => .str i)
/-- a number of the module -/
theorem c_gint {n : Str} {i : Int} (hm : ∃ t : Tok, X.mg n = some (.int i t)) (hg : Gl X n := by rfl) (hd : (n == ("__debug__" : Str)) = false := by decide) : CE X ρ (.Name n p) (.int i) ρ := let ⟨t, hm⟩ := hm; .of (pe_glob (v := .int i) hg hm ⟨_, rfl⟩ hd) (ev_c fun _ => .int i)
/-- a def, a class of the module -/
theorem c_gref {n : Str} {a : Addr} (hm : X.mg n = some (.ref a)) (hg : Gl X n := by rfl) (hd : (n == ("__debug__" : Str)) = false := by decide) : CE X ρ (.Name n p) (.adr a) ρ := .of (pe_glob (v := .ref a) hg hm rfl hd) (ev_c fun _ => .adr a)
/-- a built-in class -/
theorem c_bty {n : Str} (T : String) (hm : X.mg n = none) (hv : bootBuiltins n = some (.type T) := by decide +kernel) (hg : Gl X n := by rfl) (hn : n ≠ "__name__" := by decide) (hd : (n == ("__debug__" : Str)) = false := by decide) : CE X ρ (.Name n p) (.ty T) ρ := .of (pe_bltn (v := .ty T) hg hm hv rfl hn hd) (ev_c fun _ => .ty T)

/-! ### operators -/
theorem c_bin {op : Operator} {r : R2} (ho : OpR X (binaryOp op) r) (hd : OpD X.K r x y z) (ha : CE X ρ a x ρ1) (hb : CE X ρ1 b y ρ2) : CE X ρ (.BinOp a op b pos) z ρ2 := .of (pe_op ho pe_tw pe_tw) (ev_op hd ha hb)
theorem n_bin {op : Operator} {r : R2} {ds : List D} (ho : OpR X (binaryOp op) r) (hd : OpN X.K r x y ds) (ha : CE X ρ a x ρ1) (hb : CE X ρ1 b y ρ2) : CN X ρ (.BinOp a op b pos) ds ρ2 := .of (pe_op ho pe_tw pe_tw) (en_op hd ha hb)
variable {i j : Int}
theorem c_add (ha : CE X ρ a (.int i) ρ1) (hb : CE X ρ1 b (.int j) ρ2) : CE X ρ (.BinOp a .Add b pos) (.int (i + j)) ρ2 := c_bin op_add (opd_I0 (g := fun i j => .int (i + j)) fun _ => .int _) ha hb
theorem c_sub (ha : CE X ρ a (.int i) ρ1) (hb : CE X ρ1 b (.int j) ρ2) : CE X ρ (.BinOp a .Sub b pos) (.int (i - j)) ρ2 := c_bin op_sub (opd_I0 (g := fun i j => .int (i - j)) fun _ => .int _) ha hb
theorem c_mul (ha : CE X ρ a (.int i) ρ1) (hb : CE X ρ1 b (.int j) ρ2) (hc : CMul i j) : CE X ρ (.BinOp a .Mult b pos) (.int (i * j)) ρ2 := c_bin op_mul (opd_I (g := fun i j => .int (i * j)) hc fun _ => .int _) ha hb
theorem c_mulW (ha : CE X ρ a (.int i) ρ1) (hb : CE X ρ1 b (.int j) ρ2) (hc : CMulW i j) : CE X ρ (.BinOp a .Mult b pos) (.int (i * j)) ρ2 := c_bin op_mulW (opd_I (g := fun i j => .int (i * j)) hc fun _ => .int _) ha hb
theorem c_div (ha : CE X ρ a (.int i) ρ1) (hb : CE X ρ1 b (.int j) ρ2) (hc : CDiv i j) : CE X ρ (.BinOp a .FloorDiv b pos) (.int (i / j)) ρ2 := c_bin op_fdiv (opd_I (g := fun i j => .int (i / j)) hc fun _ => .int _) ha hb
theorem c_divW (ha : CE X ρ a (.int i) ρ1) (hb : CE X ρ1 b (.int j) ρ2) (hc : CDivW i j) : CE X ρ (.BinOp a .FloorDiv b pos) (.int (i / j)) ρ2 := c_bin op_fdivW (opd_I (g := fun i j => .int (i / j)) hc fun _ => .int _) ha hb
theorem c_mod (ha : CE X ρ a (.int i) ρ1) (hb : CE X ρ1 b (.int j) ρ2) (hc : 0 < j) : CE X ρ (.BinOp a .Mod b pos) (.int (i % j)) ρ2 := c_bin op_mod (opd_I (C := fun _ j => 0 < j) (g := fun i j => .int (i % j)) hc fun _ => .int _) ha hb
theorem c_pow (ha : CE X ρ a (.int i) ρ1) (hb : CE X ρ1 b (.int j) ρ2) (hc : CPow i j) : CE X ρ (.BinOp a .Pow b pos) (.int (i ^ j.toNat)) ρ2 := c_bin op_pow (opd_I (g := fun i j => .int (i ^ j.toNat)) hc fun _ => .int _) ha hb
theorem c_neg (ha : CE X ρ a (.int i) ρ1) : CE X ρ (.UnaryOp .USub a pos) (.int (-i)) ρ1 := .of (pe_un un_neg pe_tw) ⟨ha.1, fun F O σ H Q I q => ha.2 F O σ H _ I fun v H1 J r => by
  cases r
  exact ⟨i, rfl, q _ _ J (.int _)⟩⟩
theorem c_cmp {op : CmpOp} {r : R2} (ho : OpR X (compareOp op) r) (hd : OpD X.K r x y z) (ha : CE X ρ a x ρ1) (hb : CE X ρ1 b y ρ2) (hm : behindInMarks op b = false) : CE X ρ (.Compare a [op] [b] pos) z ρ2 := .of (pe_cmpR ho pe_tw pe_tw hm) (ev_op hd ha hb)
theorem c_lt (ha : CE X ρ a (.int i) ρ1) (hb : CE X ρ1 b (.int j) ρ2) : CE X ρ (.Compare a [.Lt] [b] pos) (.bl (decide (i < j))) ρ2 := c_cmp op_lt (opd_I0 (g := fun i j => .bl (decide (i < j))) fun _ => .bl _) ha hb (nomark _)
theorem c_le (ha : CE X ρ a (.int i) ρ1) (hb : CE X ρ1 b (.int j) ρ2) : CE X ρ (.Compare a [.LtE] [b] pos) (.bl (decide (i ≤ j))) ρ2 := c_cmp op_le (opd_I0 (g := fun i j => .bl (decide (i ≤ j))) fun _ => .bl _) ha hb (nomark _)
theorem c_gt (ha : CE X ρ a (.int i) ρ1) (hb : CE X ρ1 b (.int j) ρ2) : CE X ρ (.Compare a [.Gt] [b] pos) (.bl (decide (j < i))) ρ2 := c_cmp op_gt (opd_I0 (g := fun i j => .bl (decide (j < i))) fun _ => .bl _) ha hb (nomark _)
theorem c_ge (ha : CE X ρ a (.int i) ρ1) (hb : CE X ρ1 b (.int j) ρ2) : CE X ρ (.Compare a [.GtE] [b] pos) (.bl (decide (j ≤ i))) ρ2 := c_cmp op_ge (opd_I0 (g := fun i j => .bl (decide (j ≤ i))) fun _ => .bl _) ha hb (nomark _)
/-- == of plain things of the kinds of scal -/
theorem opd_eq {v w : V} (rv : ∀ H u, Rep X.K H u x → u = v) (rw' : ∀ H u, Rep X.K H u y → u = w) (hs : scal v w = true) : OpD X.K rEq x y (.bl (decide (v = w))) := fun F O ρ σ H v' w' Q I r1 r2 q => by
  rw [rv _ _ r1, rw' _ _ r2]
  exact ⟨hs, q _ _ I (.bl _)⟩
theorem opd_ne {v w : V} (rv : ∀ H u, Rep X.K H u x → u = v) (rw' : ∀ H u, Rep X.K H u y → u = w) (hs : scal v w = true) : OpD X.K rNe x y (.bl (!decide (v = w))) := fun F O ρ σ H v' w' Q I r1 r2 q => by
  rw [rv _ _ r1, rw' _ _ r2]
  exact ⟨hs, q _ _ I (.bl _)⟩
theorem rint {K : PySem.W.Frag} {H : Hp} {u : V} (r : Rep K H u (.int i)) : u = .int i := by cases r; rfl
theorem rbl {K : PySem.W.Frag} {H : Hp} {u : V} {k : Bool} (r : Rep K H u (.bl k)) : u = .bl k := by cases r; rfl
theorem rstr {K : PySem.W.Frag} {H : Hp} {u : V} {k : Str} (r : Rep K H u (.str k)) : u = .str k := by cases r; rfl
theorem rnon {K : PySem.W.Frag} {H : Hp} {u : V} (r : Rep K H u .non) : u = .non := by cases r; rfl
theorem dInt : decide (V.int i = V.int j) = decide (i = j) := by
  by_cases h : i = j
  · subst h; simp
  · rw [decide_eq_false h, decide_eq_false fun z => h (V.int.inj z)]
theorem dBl {i j : Bool} : decide (V.bl i = V.bl j) = decide (i = j) := by
  by_cases h : i = j
  · subst h; simp
  · rw [decide_eq_false h, decide_eq_false fun z => h (V.bl.inj z)]
theorem dStr {i j : Str} : decide (V.str i = V.str j) = decide (i = j) := by
  by_cases h : i = j
  · subst h; simp
  · rw [decide_eq_false h, decide_eq_false fun z => h (V.str.inj z)]
theorem c_eqI (ha : CE X ρ a (.int i) ρ1) (hb : CE X ρ1 b (.int j) ρ2) : CE X ρ (.Compare a [.Eq] [b] pos) (.bl (decide (i = j))) ρ2 := (c_cmp op_eq (opd_eq (fun _ _ r => rint r) (fun _ _ r => rint r) rfl) ha hb (nomark _)).eq (congrArg D.bl dInt)
theorem c_neI (ha : CE X ρ a (.int i) ρ1) (hb : CE X ρ1 b (.int j) ρ2) : CE X ρ (.Compare a [.NotEq] [b] pos) (.bl (!decide (i = j))) ρ2 := (c_cmp op_ne (opd_ne (fun _ _ r => rint r) (fun _ _ r => rint r) rfl) ha hb (nomark _)).eq (congrArg (fun z => D.bl (!z)) dInt)
theorem c_eqB {i j : Bool} (ha : CE X ρ a (.bl i) ρ1) (hb : CE X ρ1 b (.bl j) ρ2) : CE X ρ (.Compare a [.Eq] [b] pos) (.bl (decide (i = j))) ρ2 := (c_cmp op_eq (opd_eq (fun _ _ r => rbl r) (fun _ _ r => rbl r) rfl) ha hb (nomark _)).eq (congrArg D.bl dBl)
theorem c_neB {i j : Bool} (ha : CE X ρ a (.bl i) ρ1) (hb : CE X ρ1 b (.bl j) ρ2) : CE X ρ (.Compare a [.NotEq] [b] pos) (.bl (!decide (i = j))) ρ2 := (c_cmp op_ne (opd_ne (fun _ _ r => rbl r) (fun _ _ r => rbl r) rfl) ha hb (nomark _)).eq (congrArg (fun z => D.bl (!z)) dBl)
theorem c_eqS {i j : Str} (ha : CE X ρ a (.str i) ρ1) (hb : CE X ρ1 b (.str j) ρ2) : CE X ρ (.Compare a [.Eq] [b] pos) (.bl (decide (i = j))) ρ2 := (c_cmp op_eq (opd_eq (fun _ _ r => rstr r) (fun _ _ r => rstr r) rfl) ha hb (nomark _)).eq (congrArg D.bl dStr)
theorem c_neS {i j : Str} (ha : CE X ρ a (.str i) ρ1) (hb : CE X ρ1 b (.str j) ρ2) : CE X ρ (.Compare a [.NotEq] [b] pos) (.bl (!decide (i = j))) ρ2 := (c_cmp op_ne (opd_ne (fun _ _ r => rstr r) (fun _ _ r => rstr r) rfl) ha hb (nomark _)).eq (congrArg (fun z => D.bl (!z)) dStr)
/-- is None -/
def isNon : D → Bool
  | .non => true
  | _ => false
theorem isNon_of {K : PySem.W.Frag} {H : Hp} {v : V} (r : Rep K H v x) : decide (v = V.non) = isNon x := by cases r <;> rfl
theorem c_isN (ha : CE X ρ a x ρ1) (hb : CE X ρ1 b .non ρ2) : CE X ρ (.Compare a [.Is] [b] pos) (.bl (isNon x)) ρ2 := c_cmp op_isN (fun F O ρ σ H v w Q I r1 r2 q => by
  cases r2
  refine ⟨rfl, ?_⟩
  rw [isNon_of r1]
  exact q _ _ I (.bl _)) ha hb (nomark _)
theorem c_notN (ha : CE X ρ a x ρ1) (hb : CE X ρ1 b .non ρ2) : CE X ρ (.Compare a [.IsNot] [b] pos) (.bl (!isNon x)) ρ2 := c_cmp op_notN (fun F O ρ σ H v w Q I r1 r2 q => by
  cases r2
  refine ⟨rfl, ?_⟩
  rw [isNon_of r1]
  exact q _ _ I (.bl _)) ha hb (nomark _)

/-! ### chains: a < b < c -/
theorem ev_chain {r1 r2 : R2} {ta tb tc : TE} {k l : Bool} (d1 : OpD X.K r1 x y (.bl k)) (d2 : OpD X.K r2 y z (.bl l)) (ha : EV X.K ta ρ x ρ1) (hb : EV X.K tb ρ1 y ρ2) (hc : k = true → EV X.K tc ρ2 z ρ2) :
    EV X.K (tChain r1 r2 ta tb tc) ρ (.bl (k && l)) ρ2 := ⟨hb.1.trans ha.1, fun F O σ H Q I q => ev2 ha hb I fun v w H2 J rv rw' => by
  refine d1 _ O ρ2 σ H2 v w _ J.sup rv rw' fun u H3 L ru => ?_
  have L' := L.weak J.le_sup J.od
  have rw3 := SOk.keep rfl L rw'
  cases ru
  refine ⟨k, rfl, ?_⟩
  cases k with
  | false => rw [if_neg Bool.false_ne_true]; exact q _ _ L' (.bl _)
  | true =>
    rw [if_pos rfl]
    refine (hc rfl).2 _ O σ H3 _ L'.sup fun w' H4 M r4 => ?_
    refine d2 F O ρ2 σ H4 w w' Q (M.weak L'.le_sup L'.od) (SOk.keep rfl M rw3) r4 fun u H5 N r5 => ?_
    exact q u H5 N r5⟩
theorem c_chain {o1 o2 : CmpOp} {r1 r2 : R2} {k l : Bool} (h1 : OpR X (compareOp o1) r1) (h2 : OpR X (compareOp o2) r2) (d1 : OpD X.K r1 x y (.bl k)) (d2 : OpD X.K r2 y z (.bl l)) (ha : CE X ρ a x ρ1) (hb : CE X ρ1 b y ρ2) (hc : k = true → CE X ρ2 c z ρ2)
    (hm : lastMarks [o1, o2] [b, c] = false := by with_unfolding_all rfl) : CE X ρ (.Compare a [o1, o2] [b, c] pos) (.bl (k && l)) ρ2 := .of (pe_chain h1 h2 pe_tw pe_tw pe_tw hm) (ev_chain d1 d2 ha hb hc)
theorem c_leLe {i j m : Int} (ha : CE X ρ a (.int i) ρ1) (hb : CE X ρ1 b (.int j) ρ2) (hc : i ≤ j → CE X ρ2 c (.int m) ρ2) (hm : lastMarks [.LtE, .LtE] [b, c] = false := by with_unfolding_all rfl) :
    CE X ρ (.Compare a [.LtE, .LtE] [b, c] pos) (.bl (decide (i ≤ j) && decide (j ≤ m))) ρ2 :=
  c_chain op_le op_le (opd_I0 (g := fun i j => .bl (decide (i ≤ j))) fun _ => .bl _) (opd_I0 (g := fun i j => .bl (decide (i ≤ j))) fun _ => .bl _) ha hb (fun h => hc (of_decide_eq_true h)) hm

/-! ### and, or, not, if -/
/-- a value that is a truth, as a test -/
theorem t_val {k : Bool} (h : CE X ρ e (.bl k) ρ1) (he : ∀ whole, isTrue e X.env whole = (do let v ← whole; standAt e.pos; holding [v] (truthy v)) := by intro _; rfl) : CT X ρ e k ρ1 := .of (pt_val pe_tw he) ⟨h.1, fun F O σ H Q I q => h.2 F O σ H _ I fun v H1 J r => by
  cases r
  exact ⟨k, rfl, q _ J⟩⟩
/-- a comparison as a test -/
theorem t_cmp {op : CmpOp} {k : Bool} {r : R2} (ho : OpR X (compareOp op) r) (hd : OpD X.K r x y (.bl k)) (ha : CE X ρ a x ρ1) (hb : CE X ρ1 b y ρ2) (hm : behindInMarks op b = false) : CT X ρ (.Compare a [op] [b] pos) k ρ2 := .of (pt_cmpR ho pe_tw pe_tw hm)
  ⟨hb.1.trans ha.1, fun F O σ H Q I q => (ev_op hd ha hb).2 F O σ H _ I fun v H1 J r => by
    cases r
    exact ⟨k, rfl, q _ J⟩⟩
theorem t_chain {o1 o2 : CmpOp} {r1 r2 : R2} {k l : Bool} (h1 : OpR X (compareOp o1) r1) (h2 : OpR X (compareOp o2) r2) (d1 : OpD X.K r1 x y (.bl k)) (d2 : OpD X.K r2 y z (.bl l)) (ha : CE X ρ a x ρ1) (hb : CE X ρ1 b y ρ2) (hc : k = true → CE X ρ2 c z ρ2)
    (hm : lastMarks [o1, o2] [b, c] = false := by with_unfolding_all rfl) : CT X ρ (.Compare a [o1, o2] [b, c] pos) (k && l) ρ2 := .of (pt_chain h1 h2 pe_tw pe_tw pe_tw hm)
  ⟨hb.1.trans ha.1, fun F O σ H Q I q => (ev_chain d1 d2 ha hb hc).2 F O σ H _ I fun v H1 J r => by
    cases r
    exact ⟨_, rfl, q _ J⟩⟩
theorem t_lt (ha : CE X ρ a (.int i) ρ1) (hb : CE X ρ1 b (.int j) ρ2) : CT X ρ (.Compare a [.Lt] [b] pos) (decide (i < j)) ρ2 := t_cmp op_lt (opd_I0 (g := fun i j => .bl (decide (i < j))) fun _ => .bl _) ha hb (nomark _)
theorem t_le (ha : CE X ρ a (.int i) ρ1) (hb : CE X ρ1 b (.int j) ρ2) : CT X ρ (.Compare a [.LtE] [b] pos) (decide (i ≤ j)) ρ2 := t_cmp op_le (opd_I0 (g := fun i j => .bl (decide (i ≤ j))) fun _ => .bl _) ha hb (nomark _)
theorem t_gt (ha : CE X ρ a (.int i) ρ1) (hb : CE X ρ1 b (.int j) ρ2) : CT X ρ (.Compare a [.Gt] [b] pos) (decide (j < i)) ρ2 := t_cmp op_gt (opd_I0 (g := fun i j => .bl (decide (j < i))) fun _ => .bl _) ha hb (nomark _)
theorem t_ge (ha : CE X ρ a (.int i) ρ1) (hb : CE X ρ1 b (.int j) ρ2) : CT X ρ (.Compare a [.GtE] [b] pos) (decide (j ≤ i)) ρ2 := t_cmp op_ge (opd_I0 (g := fun i j => .bl (decide (j ≤ i))) fun _ => .bl _) ha hb (nomark _)
theorem t_eqI (ha : CE X ρ a (.int i) ρ1) (hb : CE X ρ1 b (.int j) ρ2) : CT X ρ (.Compare a [.Eq] [b] pos) (decide (i = j)) ρ2 := (t_cmp op_eq (opd_eq (fun _ _ r => rint r) (fun _ _ r => rint r) rfl) ha hb (nomark _)).eq dInt
theorem t_neI (ha : CE X ρ a (.int i) ρ1) (hb : CE X ρ1 b (.int j) ρ2) : CT X ρ (.Compare a [.NotEq] [b] pos) (!decide (i = j)) ρ2 := (t_cmp op_ne (opd_ne (fun _ _ r => rint r) (fun _ _ r => rint r) rfl) ha hb (nomark _)).eq (congrArg (fun z => !z) dInt)
theorem t_eqB {i j : Bool} (ha : CE X ρ a (.bl i) ρ1) (hb : CE X ρ1 b (.bl j) ρ2) : CT X ρ (.Compare a [.Eq] [b] pos) (decide (i = j)) ρ2 := (t_cmp op_eq (opd_eq (fun _ _ r => rbl r) (fun _ _ r => rbl r) rfl) ha hb (nomark _)).eq dBl
theorem t_neB {i j : Bool} (ha : CE X ρ a (.bl i) ρ1) (hb : CE X ρ1 b (.bl j) ρ2) : CT X ρ (.Compare a [.NotEq] [b] pos) (!decide (i = j)) ρ2 := (t_cmp op_ne (opd_ne (fun _ _ r => rbl r) (fun _ _ r => rbl r) rfl) ha hb (nomark _)).eq (congrArg (fun z => !z) dBl)
theorem t_eqS {i j : Str} (ha : CE X ρ a (.str i) ρ1) (hb : CE X ρ1 b (.str j) ρ2) : CT X ρ (.Compare a [.Eq] [b] pos) (decide (i = j)) ρ2 := (t_cmp op_eq (opd_eq (fun _ _ r => rstr r) (fun _ _ r => rstr r) rfl) ha hb (nomark _)).eq dStr
theorem t_leLe {i j m : Int} (ha : CE X ρ a (.int i) ρ1) (hb : CE X ρ1 b (.int j) ρ2) (hc : i ≤ j → CE X ρ2 c (.int m) ρ2) (hm : lastMarks [.LtE, .LtE] [b, c] = false := by with_unfolding_all rfl) :
    CT X ρ (.Compare a [.LtE, .LtE] [b, c] pos) (decide (i ≤ j) && decide (j ≤ m)) ρ2 :=
  t_chain op_le op_le (opd_I0 (g := fun i j => .bl (decide (i ≤ j))) fun _ => .bl _) (opd_I0 (g := fun i j => .bl (decide (i ≤ j))) fun _ => .bl _) ha hb (fun h => hc (of_decide_eq_true h)) hm
theorem t_isN (ha : CE X ρ a x ρ1) (hb : CE X ρ1 b .non ρ2) : CT X ρ (.Compare a [.Is] [b] pos) (isNon x) ρ2 := t_cmp op_isN (fun F O ρ σ H v w Q I r1 r2 q => by
  cases r2
  refine ⟨rfl, ?_⟩
  rw [isNon_of r1]
  exact q _ _ I (.bl _)) ha hb (nomark _)
theorem t_notN (ha : CE X ρ a x ρ1) (hb : CE X ρ1 b .non ρ2) : CT X ρ (.Compare a [.IsNot] [b] pos) (!isNon x) ρ2 := t_cmp op_notN (fun F O ρ σ H v w Q I r1 r2 q => by
  cases r2
  refine ⟨rfl, ?_⟩
  rw [isNon_of r1]
  exact q _ _ I (.bl _)) ha hb (nomark _)
theorem et_and {t u : TT} {k l : Bool} (h1 : ET X.K t ρ k ρ1) (h2 : k = true → ET X.K u ρ1 l ρ2) (hs : k = false → ρ2 = ρ1) : ET X.K (tAnd t u) ρ (k && l) ρ2 := by
  cases k with
  | true => exact ⟨(h2 rfl).1.trans h1.1, fun F O σ H Q I q => h1.2 F O σ H _ I fun H1 J => by
      rw [if_pos rfl]
      exact (h2 rfl).2 F O σ H1 Q J q⟩
  | false =>
    obtain rfl := hs rfl
    exact ⟨h1.1, fun F O σ H Q I q => h1.2 F O σ H _ I fun H1 J => by
      rw [if_neg Bool.false_ne_true]
      exact q H1 J⟩
theorem et_or {t u : TT} {k l : Bool} (h1 : ET X.K t ρ k ρ1) (h2 : k = false → ET X.K u ρ1 l ρ2) (hs : k = true → ρ2 = ρ1) : ET X.K (tOr t u) ρ (k || l) ρ2 := by
  cases k with
  | false => exact ⟨(h2 rfl).1.trans h1.1, fun F O σ H Q I q => h1.2 F O σ H _ I fun H1 J => by
      rw [if_neg Bool.false_ne_true]
      exact (h2 rfl).2 F O σ H1 Q J q⟩
  | true =>
    obtain rfl := hs rfl
    exact ⟨h1.1, fun F O σ H Q I q => h1.2 F O σ H _ I fun H1 J => by
      rw [if_pos rfl]
      exact q H1 J⟩
variable {k l : Bool} {rest : List Expr}
theorem w_and1 (ha : CT X ρ a k ρ1) : CW X ρ (.BoolOp .And [a] pos) k ρ1 := .of (pw_and1 pt_tw) ha
theorem w_or1 (ha : CT X ρ a k ρ1) : CW X ρ (.BoolOp .Or [a] pos) k ρ1 := .of (pw_or1 pt_tw) ha
theorem w_and (ha : CT X ρ a k ρ1) (hb : k = true → CW X ρ1 (.BoolOp .And (b :: rest) pos) l ρ2) (hs : k = false → ρ2 = ρ1 := by intro _; rfl) : CW X ρ (.BoolOp .And (a :: b :: rest) pos) (k && l) ρ2 := .of (pw_and pt_tw pw_tw) (et_and ha hb hs)
theorem w_or (ha : CT X ρ a k ρ1) (hb : k = false → CW X ρ1 (.BoolOp .Or (b :: rest) pos) l ρ2) (hs : k = true → ρ2 = ρ1 := by intro _; rfl) : CW X ρ (.BoolOp .Or (a :: b :: rest) pos) (k || l) ρ2 := .of (pw_or pt_tw pw_tw) (et_or ha hb hs)
theorem t_w (h : CW X ρ e k ρ1) : CT X ρ e k ρ1 := .of (PW.pt pw_tw) h
theorem t_not (ha : CT X ρ a k ρ1) : CT X ρ (.UnaryOp .Not a pos) (!k) ρ1 := .of (pt_not pt_tw) ⟨ha.1, fun F O σ H Q I q => ha.2 F O σ H _ I fun H1 J => q H1 J⟩
/-- as values, all truths -/
theorem c_one {op} (h : CE X ρ a x ρ1) : CE X ρ (.BoolOp op [a] pos) x ρ1 := .of (pe_one pe_tw) h
theorem c_and (ha : CE X ρ a (.bl k) ρ1) (hb : k = true → CE X ρ1 (.BoolOp .And (b :: rest) pos) (.bl l) ρ2) (hs : k = false → ρ2 = ρ1 := by intro _; rfl) : CE X ρ (.BoolOp .And (a :: b :: rest) pos) (.bl (k && l)) ρ2 := by
  cases k with
  | true => exact .of (pe_and pe_tw pe_tw) ⟨(hb rfl).1.trans ha.1, fun F O σ H Q I q => ha.2 F O σ H _ I fun v H1 J r => by
      cases r
      refine ⟨_, rfl, ?_⟩
      rw [if_pos rfl]
      exact (hb rfl).2 F O σ H1 Q J q⟩
  | false =>
    obtain rfl := hs rfl
    exact .of (pe_and pe_tw (pe_tw (X := X))) ⟨ha.1, fun F O σ H Q I q => ha.2 F O σ H _ I fun v H1 J r => by
      cases r
      refine ⟨_, rfl, ?_⟩
      rw [if_neg Bool.false_ne_true]
      exact q _ H1 J (.bl _)⟩
theorem c_or (ha : CE X ρ a (.bl k) ρ1) (hb : k = false → CE X ρ1 (.BoolOp .Or (b :: rest) pos) (.bl l) ρ2) (hs : k = true → ρ2 = ρ1 := by intro _; rfl) : CE X ρ (.BoolOp .Or (a :: b :: rest) pos) (.bl (k || l)) ρ2 := by
  cases k with
  | false => exact .of (pe_or pe_tw pe_tw) ⟨(hb rfl).1.trans ha.1, fun F O σ H Q I q => ha.2 F O σ H _ I fun v H1 J r => by
      cases r
      refine ⟨_, rfl, ?_⟩
      rw [if_neg Bool.false_ne_true]
      exact (hb rfl).2 F O σ H1 Q J q⟩
  | true =>
    obtain rfl := hs rfl
    exact .of (pe_or pe_tw (pe_tw (X := X))) ⟨ha.1, fun F O σ H Q I q => ha.2 F O σ H _ I fun v H1 J r => by
      cases r
      refine ⟨_, rfl, ?_⟩
      rw [if_pos rfl]
      exact q _ H1 J (.bl _)⟩
theorem c_not (ha : CE X ρ a (.bl k) ρ1) : CE X ρ (.UnaryOp .Not a pos) (.bl (!k)) ρ1 := .of (pe_not pe_tw) ⟨ha.1, fun F O σ H Q I q => ha.2 F O σ H _ I fun v H1 J r => by
  cases r
  exact ⟨_, rfl, q _ H1 J (.bl _)⟩⟩
theorem c_if (hc : CT X ρ c k ρ1) (h1 : k = true → CE X ρ1 a d ρ2) (h2 : k = false → CE X ρ1 b d ρ2) : CE X ρ (.IfExp c a b pos) d ρ2 := by
  refine .of (pe_ifExp pt_tw pe_tw pe_tw) ?_
  cases k with
  | true => exact ⟨(h1 rfl).1.trans hc.1, fun F O σ H Q I q => hc.2 F O σ H _ I fun H1 J => by
      rw [if_pos rfl]
      exact (h1 rfl).2 F O σ H1 Q J q⟩
  | false => exact ⟨(h2 rfl).1.trans hc.1, fun F O σ H Q I q => hc.2 F O σ H _ I fun H1 J => by
      rw [if_neg Bool.false_ne_true]
      exact (h2 rfl).2 F O σ H1 Q J q⟩
/-- the same state behind both -/
theorem c_ite {x y : D} (hc : CT X ρ c k ρ1) (h1 : k = true → CE X ρ1 a x ρ1) (h2 : k = false → CE X ρ1 b y ρ1) : CE X ρ (.IfExp c a b pos) (if k then x else y) ρ1 :=
  c_if hc (fun h => by subst h; exact h1 rfl) (fun h => by subst h; exact h2 rfl)

/-! ### arguments, tuples, lists -/
theorem d_nil : CD X ρ [] [] ρ := .of pa_nil ed_nil
theorem d_cons {ds : List D} (h : CE X ρ e d ρ1) (hr : CD X ρ1 es ds ρ2) (hs : starEach (e :: es) X.env = (false, eval e X.env) :: starEach es X.env := by rfl) : CD X ρ (e :: es) (d :: ds) ρ2 := .of (pa_cons pe_tw pa_tw hs) (ed_cons h hr)
theorem c_tup {x1} {ds : List D} (h : CD X ρ es ds ρ1) (hl : ds.length ≤ sizeLine) : CE X ρ (.Tuple es x1 pos) (.tup ds) ρ1 := .of (pe_tup pa_tw) ⟨h.1, fun F O σ H Q I q => h.2 F O σ H _ I fun vs H1 J r =>
  ⟨by rw [r.length]; exact hl, fun p hp => q _ _ (J.new hp) (.tup (.of (J.newHid hp)) (r.mono (ex_new hp)))⟩⟩
theorem n_lst {ds : List D} (h : CD X ρ es ds ρ1) (hl : ds.length ≤ sizeLine) : CN X ρ (.List es pos) ds ρ1 := .of (pe_lst pa_tw) ⟨h.1, fun F O σ H Q I q => h.2 F O σ H _ I fun vs H1 J r =>
  ⟨by rw [r.length]; exact hl, fun p hp => q p vs H1 J hp r⟩⟩
end
end VL
end

section
set_option Elab.async false
set_option linter.all false
set_option maxRecDepth 100000
set_option maxHeartbeats 4000000
namespace VL
open PySem PySem.Spec PyProof.Rows L2

section
variable {X : Cx} {e a b c : Expr} {es : List Expr} {ρ ρ1 ρ2 ρ3 : Lo} {x y z d : D} {pos p : Pos} {i j : Int} {K : PySem.W.Frag} {H : Hp}

/-! ### subscripts, slices -/
theorem Reps.at {vs : List V} {ds : List D} (r : Reps K H vs ds) (h : atI ds i = some d) : ∃ v, atI vs i = some v ∧ Rep K H v d := by
  unfold atI at h ⊢
  rw [r.length]
  cases q : ixN ds.length i with
  | none => rw [q] at h; cases h
  | some k =>
    rw [q] at h
    exact r.get (show ds[k]? = some d from h)
def cutD (xs : List D) (lo hi : Option Int) : List D := (xs.drop (HT.sIx xs.length 0 lo)).take (HT.sIx xs.length xs.length hi - HT.sIx xs.length 0 lo)
theorem Reps.cut {vs : List V} {ds : List D} (r : Reps K H vs ds) (lo hi : Option Int) : Reps K H (cutV vs lo hi) (cutD ds lo hi) := by
  unfold cutV cutD
  rw [r.length]
  exact (r.drop _).take _
theorem c_sub_ {r : R2} (hr : IxR X r) (hd : OpD X.K r x y z) (ha : CE X ρ a x ρ1) (hb : CE X ρ1 b y ρ2) (hs : PlainIx b) : CE X ρ (.Subscript a b pos) z ρ2 := .of (pe_ix hr pe_tw pe_tw hs) (ev_op hd ha hb)
theorem c_ixT {ds : List D} (ha : CE X ρ a (.tup ds) ρ1) (hb : CE X ρ1 b (.int i) ρ2) (h : atI ds i = some d) (hs : PlainIx b := by exact fun _ _ => rfl) : CE X ρ (.Subscript a b pos) d ρ2 := c_sub_ ix_tup (fun F O ρ σ H v w Q I r1 r2 q => by
  cases r2
  cases r1 with
  | tup h1 rs =>
    obtain ⟨u, e1, ru⟩ := rs.at h
    exact ⟨_, _, _, u, rfl, rfl, hid_ex.t h1, e1, q _ _ I ru⟩) ha hb hs
theorem c_ixL {ds : List D} (ha : CE X ρ a (.lst ds) ρ1) (hb : CE X ρ1 b (.int i) ρ2) (h : atI ds i = some d) (hs : PlainIx b := by exact fun _ _ => rfl) : CE X ρ (.Subscript a b pos) d ρ2 := c_sub_ ix_list (fun F O ρ σ H v w Q I r1 r2 q => by
  cases r2
  cases r1 with
  | lst h1 rs =>
    obtain ⟨u, e1, ru⟩ := rs.at h
    exact ⟨_, _, _, u, rfl, rfl, .of (hid_ex _ _ h1), e1, q _ _ I ru⟩) ha hb hs
/-- a part of a slice -/
def EO (K : PySem.W.Frag) (t : TO) (ρ : Lo) (o : Option Int) (ρ' : Lo) : Prop := owns ρ' = owns ρ ∧
  ∀ F O σ H (Q : Option Int → Hp → Prop), SOk K F O ρ σ H → (∀ H', SOk K F O ρ' σ H' → Q o H') → t σ H Q
/-- a slice's parts: an optional int -/
structure CO (X : Cx) (ρ : Lo) (e : Option Expr) (o : Option Int) (ρ' : Lo) : Prop where
  ex : ∃ t, PO X e t ∧ EO X.K t ρ o ρ'
theorem o_none : CO X ρ none none ρ := ⟨_, po_none, rfl, fun F O σ H Q I q => q H I⟩
theorem o_some (h : CE X ρ e (.int i) ρ1) : CO X ρ (some e) (some i) ρ1 := ⟨_, po_some pe_tw, h.1, fun F O σ H Q I q => h.2 F O σ H _ I fun v H1 J r => by
  cases r
  exact ⟨i, rfl, q _ J⟩⟩
theorem ev_sl {r : V → Option Int → Option Int → Hp → VK → Prop} {te : TE} {tl th : TO} {lo hi : Option Int} (h : EV X.K te ρ x ρ1) (h1 : EO X.K tl ρ1 lo ρ2) (h2 : EO X.K th ρ2 hi ρ3)
    (hd : ∀ F O σ H v (Q : VK), SOk X.K F O ρ3 σ H → Rep X.K (hid (UU O ρ3) H) v x → (∀ u H', SOk X.K F O ρ3 σ H' → Rep X.K (hid (UU O ρ3) H') u z → Q u H') → r v lo hi H Q) : EV X.K (tSl r te tl th) ρ z ρ3 :=
  ⟨h2.1.trans (h1.1.trans h.1), fun F O σ H Q I q => h.2 F O σ H _ I fun v H1 J rv => h1.2 _ O σ H1 _ J.sup fun H2 L => h2.2 _ O σ H2 _ L.sup fun H3 M =>
    hd F O σ H3 v Q ((M.weak L.le_sup L.od).weak J.le_sup J.od) (SOk.keep h2.1 M (SOk.keep h1.1 L rv)) q⟩
theorem en_sl {r : V → Option Int → Option Int → Hp → VK → Prop} {te : TE} {tl th : TO} {lo hi : Option Int} {ds : List D} (h : EV X.K te ρ x ρ1) (h1 : EO X.K tl ρ1 lo ρ2) (h2 : EO X.K th ρ2 hi ρ3)
    (hd : ∀ F O σ H v (Q : VK), SOk X.K F O ρ3 σ H → Rep X.K (hid (UU O ρ3) H) v x → (∀ p vs H1, SOk X.K F O ρ3 σ H1 → H1 p = none → Reps X.K (hid (UU O ρ3) H1) vs ds → Q (.ref p) (upd H1 p (.lst vs))) → r v lo hi H Q) : EN X.K (tSl r te tl th) ρ ds ρ3 :=
  ⟨h2.1.trans (h1.1.trans h.1), fun F O σ H Q I q => h.2 F O σ H _ I fun v H1 J rv => h1.2 _ O σ H1 _ J.sup fun H2 L => h2.2 _ O σ H2 _ L.sup fun H3 M =>
    hd F O σ H3 v Q ((M.weak L.le_sup L.od).weak J.le_sup J.od) (SOk.keep h2.1 M (SOk.keep h1.1 L rv)) q⟩
variable {lo hi : Option Expr} {l h : Option Int} {p2 : Pos}
theorem n_slL {ds : List D} (ha : CE X ρ a (.lst ds) ρ1) (hl : CO X ρ1 lo l ρ2) (hu : CO X ρ2 hi h ρ3) : CN X ρ (.Subscript a (.Slice lo hi none p2) pos) (cutD ds l h) ρ3 := by
  obtain ⟨tl, p1, e1⟩ := hl
  obtain ⟨th, p2, e2⟩ := hu
  refine .of (pe_slice sl_list pe_tw p1 p2) (en_sl ha e1 e2 fun F O σ H v Q I r q => ?_)
  cases r with
  | lst h1 rs => exact ⟨_, _, rfl, .of (hid_ex _ _ h1), fun p hp => q p _ H I hp (rs.cut _ _)⟩
theorem n_slF {ds : List D} (ha : CE X ρ a (.frl ds) ρ1) (hl : CO X ρ1 lo l ρ2) (hu : CO X ρ2 hi h ρ3) : CN X ρ (.Subscript a (.Slice lo hi none p2) pos) (cutD ds l h) ρ3 := by
  obtain ⟨tl, p1, e1⟩ := hl
  obtain ⟨th, p2, e2⟩ := hu
  refine .of (pe_slice sl_list pe_tw p1 p2) (en_sl ha e1 e2 fun F O σ H v Q I r q => ?_)
  cases r with
  | frl h1 rs => exact ⟨_, _, rfl, hid_ex.l h1, fun p hp => q p _ H I hp (rs.cut _ _)⟩
theorem cutV_whole {xs : List V} {lo hi : Option Int} (h : HT.sIx xs.length 0 lo = 0 ∧ HT.sIx xs.length xs.length hi = xs.length) : cutV xs lo hi = xs := by
  unfold cutV
  rw [h.1, h.2, List.drop_zero, Nat.sub_zero, List.take_length]
theorem c_slT {ds : List D} (ha : CE X ρ a (.tup ds) ρ1) (hl : CO X ρ1 lo l ρ2) (hu : CO X ρ2 hi h ρ3) : CE X ρ (.Subscript a (.Slice lo hi none p2) pos) (.tup (cutD ds l h)) ρ3 := by
  obtain ⟨tl, p1, e1⟩ := hl
  obtain ⟨th, p2, e2⟩ := hu
  refine .of (pe_slice sl_tupA pe_tw p1 p2) (ev_sl ha e1 e2 fun F O σ H v Q I r q => ?_)
  cases r with
  | @tup a' vs _ h1 rs =>
    refine ⟨_, _, rfl, hid_ex.t h1, fun hw => q _ H I (.tup h1 ?_), fun _ p hp => q _ _ (I.new hp) (.tup (.of (I.newHid hp)) ((rs.cut l h).mono (ex_new hp)))⟩
    have r2 := rs.cut l h
    rw [cutV_whole hw] at r2
    exact r2

/-! ### + and * of lists and tuples -/
theorem n_catL {xs ys : List D} (ha : CE X ρ a (.lst xs) ρ1) (hb : CE X ρ1 b (.lst ys) ρ2) (hl : xs.length + ys.length ≤ sizeLine) : CN X ρ (.BinOp a .Add b pos) (xs ++ ys) ρ2 := n_bin op_cat (fun F O ρ σ H v w Q I r1 r2 q => by
  cases r1 with
  | lst h1 s1 =>
    cases r2 with
    | lst h2 s2 => exact ⟨_, _, _, _, rfl, rfl, hid_ex _ _ h1, hid_ex _ _ h2, by rw [s1.length, s2.length]; exact hl, fun p hp => q p _ H I hp (s1.append s2)⟩) ha hb
theorem Reps.reps {vs : List V} {ds : List D} (r : Reps K H vs ds) : ∀ n : Nat, Reps K H (List.replicate n vs).flatten (List.replicate n ds).flatten
  | 0 => .nil
  | n + 1 => by
    rw [List.replicate_succ, List.replicate_succ, List.flatten_cons, List.flatten_cons]
    exact r.append (Reps.reps r n)
theorem n_repL {xs : List D} (ha : CE X ρ a (.lst xs) ρ1) (hb : CE X ρ1 b (.int i) ρ2) (hi : -(2 ^ 63) ≤ i ∧ i < 2 ^ 63) (hl : xs.length * i.toNat ≤ sizeLine) : CN X ρ (.BinOp a .Mult b pos) (List.replicate i.toNat xs).flatten ρ2 := n_bin op_rep (fun F O ρ σ H v w Q I r1 r2 q => by
  cases r2
  cases r1 with
  | lst h1 s1 => exact ⟨_, _, _, rfl, rfl, hid_ex _ _ h1, hi.1, hi.2, by rw [s1.length]; exact hl, fun p hp => q p _ H I hp (s1.reps _)⟩) ha hb
theorem c_catT {xs ys : List D} (ha : CE X ρ a (.tup xs) ρ1) (hb : CE X ρ1 b (.tup ys) ρ2) (hl : xs.length + ys.length ≤ sizeLine) : CE X ρ (.BinOp a .Add b pos) (.tup (xs ++ ys)) ρ2 := c_bin op_catA (fun F O ρ σ H v w Q I r1 r2 q => by
  cases r1 with
  | tup h1 s1 =>
    cases r2 with
    | tup h2 s2 =>
      refine ⟨_, _, _, _, rfl, rfl, hid_ex.t h1, hid_ex.t h2, by rw [s1.length, s2.length]; exact hl, fun e0 => ?_, fun _ e0 => ?_, fun _ _ p hp => q _ _ (I.new hp) (.tup (.of (I.newHid hp)) ((s1.append s2).mono (ex_new hp)))⟩
      · subst e0
        cases s1
        exact q _ H I (.tup h2 s2)
      · subst e0
        cases s2
        rw [List.append_nil] at q
        exact q _ H I (.tup h1 s1)) ha hb
theorem c_repT {xs : List D} (ha : CE X ρ a (.tup xs) ρ1) (hb : CE X ρ1 b (.int i) ρ2) (hn : xs ≠ []) (hi : 2 ≤ i ∧ i ≤ 1000) (hl : xs.length ≤ 1000) : CE X ρ (.BinOp a .Mult b pos) (.tup (List.replicate i.toNat xs).flatten) ρ2 := c_bin op_repT (fun F O ρ σ H v w Q I r1 r2 q => by
  cases r2
  cases r1 with
  | tup h1 s1 => exact ⟨_, _, _, rfl, rfl, hid_ex.t h1, (fun e0 => by subst e0; cases s1; exact hn rfl), hi.1, hi.2, by rw [s1.length]; exact hl, fun p hp => q _ _ (I.new hp) (.tup (.of (I.newHid hp)) ((s1.reps _).mono (ex_new hp)))⟩) ha hb

/-! ### built-ins -/
variable {x0 : Str} {bid T : String} {r : List V → Hp → VK → Prop} {ds : List D}
theorem c_blt (hc : CallR X (.builtin bid) r) (hd : CbD X.K r ds z) (hm : X.mg x0 = none) (hv : bootBuiltins x0 = some (.builtin bid)) (ha : CD X ρ (e :: es) ds ρ1) (hg : Gl X x0 := by rfl) (hn : x0 ≠ "__name__" := by decide) (hdb : (x0 == ("__debug__" : Str)) = false := by decide)
    (he : starEach (e :: es) X.env = (false, eval e X.env) :: starEach es X.env := by rfl) (hpl : (backTo pos (starEach es X.env)).any (·.1) = false := by rfl) : CE X ρ (.Call (.Name x0 p) (e :: es) [] pos) z ρ1 := .of (pe_callB hc hg hm hv pa_tw hn hdb he hpl) (ev_cb hd ha)
theorem c_btT (hc : CallR X (.type T) r) (hd : CbD X.K r ds z) (hm : X.mg x0 = none) (hv : bootBuiltins x0 = some (.type T)) (ha : CD X ρ (e :: es) ds ρ1) (hg : Gl X x0 := by rfl) (hn : x0 ≠ "__name__" := by decide) (hdb : (x0 == ("__debug__" : Str)) = false := by decide)
    (he : starEach (e :: es) X.env = (false, eval e X.env) :: starEach es X.env := by rfl) (hpl : (backTo pos (starEach es X.env)).any (·.1) = false := by rfl) : CE X ρ (.Call (.Name x0 p) (e :: es) [] pos) z ρ1 := .of (pe_callTy hc hg hm hv pa_tw hn hdb he hpl) (ev_cb hd ha)
theorem n_btT {zs : List D} (hc : CallR X (.type T) r) (hd : CbN X.K r ds zs) (hm : X.mg x0 = none) (hv : bootBuiltins x0 = some (.type T)) (ha : CD X ρ (e :: es) ds ρ1) (hg : Gl X x0 := by rfl) (hn : x0 ≠ "__name__" := by decide) (hdb : (x0 == ("__debug__" : Str)) = false := by decide)
    (he : starEach (e :: es) X.env = (false, eval e X.env) :: starEach es X.env := by rfl) (hpl : (backTo pos (starEach es X.env)).any (·.1) = false := by rfl) : CN X ρ (.Call (.Name x0 p) (e :: es) [] pos) zs ρ1 := .of (pe_callTy hc hg hm hv pa_tw hn hdb he hpl) (en_cb hd ha)
theorem n_blt {zs : List D} (hc : CallR X (.builtin bid) r) (hd : CbN X.K r ds zs) (hm : X.mg x0 = none) (hv : bootBuiltins x0 = some (.builtin bid)) (ha : CD X ρ (e :: es) ds ρ1) (hg : Gl X x0 := by rfl) (hn : x0 ≠ "__name__" := by decide) (hdb : (x0 == ("__debug__" : Str)) = false := by decide)
    (he : starEach (e :: es) X.env = (false, eval e X.env) :: starEach es X.env := by rfl) (hpl : (backTo pos (starEach es X.env)).any (·.1) = false := by rfl) : CN X ρ (.Call (.Name x0 p) (e :: es) [] pos) zs ρ1 := .of (pe_callB hc hg hm hv pa_tw hn hdb he hpl) (en_cb hd ha)
theorem one_of {vs : List V} (r : Reps K H vs [x]) : ∃ v, vs = [v] ∧ Rep K H v x := by
  cases r with
  | cons h t => cases t; exact ⟨_, rfl, h⟩
theorem two_of {vs : List V} (r : Reps K H vs [x, y]) : ∃ v w, vs = [v, w] ∧ Rep K H v x ∧ Rep K H w y := by
  cases r with
  | cons h t =>
    obtain ⟨w, rfl, h2⟩ := one_of t
    exact ⟨_, w, rfl, h, h2⟩
theorem c_lenL {ds : List D} (hm : X.mg "len" = none) (ha : CE X ρ a (.lst ds) ρ1) (hg : Gl X "len" := by rfl)
    (he : starEach [a] X.env = (false, eval a X.env) :: starEach [] X.env := by rfl) (hpl : (backTo pos (starEach [] X.env)).any (·.1) = false := by rfl) : CE X ρ (.Call (.Name "len" p) [a] [] pos) (.int (ds.length : Int)) ρ1 :=
  c_blt call_len_seq (fun F O ρ σ H vs Q I r q => by
    obtain ⟨v, rfl, ru⟩ := one_of r
    cases ru with
    | lst h1 s1 =>
      refine ⟨_, _, rfl, .inl (.of (hid_ex _ _ h1)), ?_⟩
      rw [s1.length]
      exact q _ _ I (.int _)) hm boot_len (d_cons ha d_nil he) hg (he := he) (hpl := hpl)
theorem c_lenF {ds : List D} (hm : X.mg "len" = none) (ha : CE X ρ a (.frl ds) ρ1) (hg : Gl X "len" := by rfl)
    (he : starEach [a] X.env = (false, eval a X.env) :: starEach [] X.env := by rfl) (hpl : (backTo pos (starEach [] X.env)).any (·.1) = false := by rfl) : CE X ρ (.Call (.Name "len" p) [a] [] pos) (.int (ds.length : Int)) ρ1 :=
  c_blt call_len_seq (fun F O ρ σ H vs Q I r q => by
    obtain ⟨v, rfl, ru⟩ := one_of r
    cases ru with
    | frl h1 s1 =>
      refine ⟨_, _, rfl, .inl (hid_ex.l h1), ?_⟩
      rw [s1.length]
      exact q _ _ I (.int _)) hm boot_len (d_cons ha d_nil he) hg (he := he) (hpl := hpl)
theorem c_lenT {ds : List D} (hm : X.mg "len" = none) (ha : CE X ρ a (.tup ds) ρ1) (hg : Gl X "len" := by rfl)
    (he : starEach [a] X.env = (false, eval a X.env) :: starEach [] X.env := by rfl) (hpl : (backTo pos (starEach [] X.env)).any (·.1) = false := by rfl) : CE X ρ (.Call (.Name "len" p) [a] [] pos) (.int (ds.length : Int)) ρ1 :=
  c_blt call_len_seq (fun F O ρ σ H vs Q I r q => by
    obtain ⟨v, rfl, ru⟩ := one_of r
    cases ru with
    | tup h1 s1 =>
      refine ⟨_, _, rfl, .inr (hid_ex.t h1), ?_⟩
      rw [s1.length]
      exact q _ _ I (.int _)) hm boot_len (d_cons ha d_nil he) hg (he := he) (hpl := hpl)
theorem c_abs (hm : X.mg "abs" = none) (ha : CE X ρ a (.int i) ρ1) (hg : Gl X "abs" := by rfl)
    (he : starEach [a] X.env = (false, eval a X.env) :: starEach [] X.env := by rfl) (hpl : (backTo pos (starEach [] X.env)).any (·.1) = false := by rfl) : CE X ρ (.Call (.Name "abs" p) [a] [] pos) (.int (if i < 0 then -i else i)) ρ1 :=
  c_blt call_abs (fun F O ρ σ H vs Q I r q => by
    obtain ⟨v, rfl, ru⟩ := one_of r
    cases ru
    exact ⟨_, rfl, q _ _ I (.int _)⟩) hm (by decide +kernel) (d_cons ha d_nil he) hg (he := he) (hpl := hpl)
theorem c_intI (hm : X.mg "int" = none) (ha : CE X ρ a (.int i) ρ1) (hg : Gl X "int" := by rfl)
    (he : starEach [a] X.env = (false, eval a X.env) :: starEach [] X.env := by rfl) (hpl : (backTo pos (starEach [] X.env)).any (·.1) = false := by rfl) : CE X ρ (.Call (.Name "int" p) [a] [] pos) (.int i) ρ1 :=
  c_btT call_int1 (fun F O ρ σ H vs Q I r q => by
    obtain ⟨v, rfl, ru⟩ := one_of r
    cases ru
    exact .inl ⟨_, rfl, q _ _ I (.int _)⟩) hm (by decide +kernel) (d_cons ha d_nil he) hg (he := he) (hpl := hpl)
theorem n_listL {ds : List D} (hm : X.mg "list" = none) (ha : CE X ρ a (.lst ds) ρ1) (hg : Gl X "list" := by rfl)
    (he : starEach [a] X.env = (false, eval a X.env) :: starEach [] X.env := by rfl) (hpl : (backTo pos (starEach [] X.env)).any (·.1) = false := by rfl) : CN X ρ (.Call (.Name "list" p) [a] [] pos) ds ρ1 :=
  n_btT call_list_of (fun F O ρ σ H vs Q I r q => by
    obtain ⟨v, rfl, ru⟩ := one_of r
    cases ru with
    | lst h1 s1 => exact ⟨_, _, rfl, .inl (.of (hid_ex _ _ h1)), fun l hl => q l _ H I hl s1⟩) hm (by decide +kernel) (d_cons ha d_nil he) hg (he := he) (hpl := hpl)
theorem n_listT {ds : List D} (hm : X.mg "list" = none) (ha : CE X ρ a (.tup ds) ρ1) (hg : Gl X "list" := by rfl)
    (he : starEach [a] X.env = (false, eval a X.env) :: starEach [] X.env := by rfl) (hpl : (backTo pos (starEach [] X.env)).any (·.1) = false := by rfl) : CN X ρ (.Call (.Name "list" p) [a] [] pos) ds ρ1 :=
  n_btT call_list_of (fun F O ρ σ H vs Q I r q => by
    obtain ⟨v, rfl, ru⟩ := one_of r
    cases ru with
    | tup h1 s1 => exact ⟨_, _, rfl, .inr (hid_ex.t h1), fun l hl => q l _ H I hl s1⟩) hm (by decide +kernel) (d_cons ha d_nil he) hg (he := he) (hpl := hpl)
theorem c_tupL {ds : List D} (hm : X.mg "tuple" = none) (ha : CE X ρ a (.lst ds) ρ1) (hg : Gl X "tuple" := by rfl)
    (he : starEach [a] X.env = (false, eval a X.env) :: starEach [] X.env := by rfl) (hpl : (backTo pos (starEach [] X.env)).any (·.1) = false := by rfl) : CE X ρ (.Call (.Name "tuple" p) [a] [] pos) (.tup ds) ρ1 :=
  c_btT call_tuple_of (fun F O ρ σ H vs Q I r q => by
    obtain ⟨v, rfl, ru⟩ := one_of r
    cases ru with
    | lst h1 s1 => exact ⟨_, _, rfl, .inl ⟨.of (hid_ex _ _ h1), fun l hl => q _ _ (I.new hl) (.tup (.of (I.newHid hl)) (s1.mono (ex_new hl)))⟩⟩) hm (by decide +kernel) (d_cons ha d_nil he) hg (he := he) (hpl := hpl)
theorem c_tupT {ds : List D} (hm : X.mg "tuple" = none) (ha : CE X ρ a (.tup ds) ρ1) (hg : Gl X "tuple" := by rfl)
    (he : starEach [a] X.env = (false, eval a X.env) :: starEach [] X.env := by rfl) (hpl : (backTo pos (starEach [] X.env)).any (·.1) = false := by rfl) : CE X ρ (.Call (.Name "tuple" p) [a] [] pos) (.tup ds) ρ1 :=
  c_btT call_tuple_of (fun F O ρ σ H vs Q I r q => by
    obtain ⟨v, rfl, ru⟩ := one_of r
    cases ru with
    | tup h1 s1 => exact ⟨_, _, rfl, .inr ⟨hid_ex.t h1, q _ _ I (.tup h1 s1)⟩⟩) hm (by decide +kernel) (d_cons ha d_nil he) hg (he := he) (hpl := hpl)
theorem c_sumL {ns : List Int} (hc : X.calm = true) (hm : X.mg "sum" = none) (ha : CE X ρ a (.lst (ns.map D.int)) ρ1) (hg : Gl X "sum" := by rfl)
    (he : starEach [a] X.env = (false, eval a X.env) :: starEach [] X.env := by rfl) (hpl : (backTo pos (starEach [] X.env)).any (·.1) = false := by rfl) : CE X ρ (.Call (.Name "sum" p) [a] [] pos) (.int ns.sum) ρ1 :=
  c_blt (cr_sum hc) (fun F O ρ σ H vs Q I r q => by
    obtain ⟨v, rfl, ru⟩ := one_of r
    cases ru with
    | lst h1 s1 =>
      rw [s1.ints] at h1
      exact ⟨_, _, rfl, .of (hid_ex _ _ h1), q _ _ I (.int _)⟩) hm (by decide +kernel) (d_cons ha d_nil he) hg (he := he) (hpl := hpl)
theorem c_allL {bs : List Bool} (hc : X.calm = true) (hm : X.mg "all" = none) (ha : CE X ρ a (.lst (bs.map D.bl)) ρ1) (hg : Gl X "all" := by rfl)
    (he : starEach [a] X.env = (false, eval a X.env) :: starEach [] X.env := by rfl) (hpl : (backTo pos (starEach [] X.env)).any (·.1) = false := by rfl) : CE X ρ (.Call (.Name "all" p) [a] [] pos) (.bl (bs.all id)) ρ1 :=
  c_blt (cr_all hc) (fun F O ρ σ H vs Q I r q => by
    obtain ⟨v, rfl, ru⟩ := one_of r
    cases ru with
    | lst h1 s1 =>
      rw [s1.bls] at h1
      exact ⟨_, _, rfl, .of (hid_ex _ _ h1), q _ _ I (.bl _)⟩) hm (by decide +kernel) (d_cons ha d_nil he) hg (he := he) (hpl := hpl)
theorem c_anyL {bs : List Bool} (hc : X.calm = true) (hm : X.mg "any" = none) (ha : CE X ρ a (.lst (bs.map D.bl)) ρ1) (hg : Gl X "any" := by rfl)
    (he : starEach [a] X.env = (false, eval a X.env) :: starEach [] X.env := by rfl) (hpl : (backTo pos (starEach [] X.env)).any (·.1) = false := by rfl) : CE X ρ (.Call (.Name "any" p) [a] [] pos) (.bl (bs.any id)) ρ1 :=
  c_blt (cr_any hc) (fun F O ρ σ H vs Q I r q => by
    obtain ⟨v, rfl, ru⟩ := one_of r
    cases ru with
    | lst h1 s1 =>
      rw [s1.bls] at h1
      exact ⟨_, _, rfl, .of (hid_ex _ _ h1), q _ _ I (.bl _)⟩) hm (by decide +kernel) (d_cons ha d_nil he) hg (he := he) (hpl := hpl)
end

/-! ### an own list read in passing -/
mutual
/-- no list, dict, instance within -/
def immut : D → Bool
  | .tup l => immutL l
  | .lst _ => false
  | .frl _ => false
  | .dic _ => false
  | .ins _ _ => false
  | .exc _ _ _ => false
  | .adr _ => true
  | _ => true
def immutL : List D → Bool
  | [] => true
  | d :: ds => immut d && immutL ds
end
section
variable {X : Cx} {e : Expr} {ρ ρ1 : Lo} {d : D} {K : PySem.W.Frag} {H : Hp} {F : Hp} {O : Addr → Prop} {σ : L2.St} {i : Nat} {p : Addr} {ds : List D}
theorem immutL_ints : ∀ ns : List Int, immutL (ns.map D.int) = true
  | [] => rfl
  | n :: ns => by rw [List.map_cons]; unfold immutL; rw [immutL_ints ns]; rfl
theorem immutL_bls : ∀ ns : List Bool, immutL (ns.map D.bl) = true
  | [] => rfl
  | n :: ns => by rw [List.map_cons]; unfold immutL; rw [immutL_bls ns]; rfl
mutual
theorem Rep.hide {U U' : Addr → Prop} (h : ∀ a, ¬ U a → U' a → ∃ vs, H a = some (.lst vs)) : ∀ {v : V} {d : D}, immut d = true → Rep K (hid U H) v d → Rep K (hid U' H) v d
  | _, _, _, .non => .non
  | _, _, _, .bl b => .bl b
  | _, _, _, .int i => .int i
  | _, _, _, .str x => .str x
  | _, _, _, .ty n => .ty n
  | _, _, _, .adr a => .adr a
  | _, _, m, .tup q r => by
    refine .tup ?_ (Reps.hide h m r)
    rcases q with q | q
    · refine .inl ?_
      rcases q with q | ⟨o, q⟩
      · obtain ⟨n, q⟩ := of_hid q
        refine .inl (hid_of (fun z => ?_) q)
        obtain ⟨vs, e⟩ := h _ n z
        rw [e] at q
        cases q
      · obtain ⟨n, q⟩ := of_hid q
        refine .inr ⟨o, hid_of (fun z => ?_) q⟩
        obtain ⟨vs, e⟩ := h _ n z
        rw [e] at q
        cases q
    · exact .inr q
  | _, _, m, .lst q r => nomatch m
  | _, _, m, .frl q r => nomatch m
  | _, _, m, .dic q r => nomatch m
  | _, _, m, .ins q r => nomatch m
  | _, _, m, .exc q r => nomatch m
theorem Reps.hide {U U' : Addr → Prop} (h : ∀ a, ¬ U a → U' a → ∃ vs, H a = some (.lst vs)) : ∀ {v : List V} {d : List D}, immutL d = true → Reps K (hid U H) v d → Reps K (hid U' H) v d
  | _, _, _, .nil => .nil
  | _, _, m, .cons q r => by
    unfold immutL at m
    rw [Bool.and_eq_true] at m
    exact .cons (Rep.hide h m.1 q) (Reps.hide h m.2 r)
end
theorem owns_set_dat (hi : ρ[i]? = some (.mut p ds)) (a : Addr) : owns (ρ.set i (.dat d)) a → owns ρ a := fun ⟨es, h⟩ => by
  rcases List.mem_or_eq_of_mem_set h with h | h
  · exact ⟨es, h⟩
  · cases h
/-- the own list of slot i let go: it is a datum from here on -/
theorem SOk.freeze (I : SOk K F O ρ σ H) (hi : ρ[i]? = some (.mut p ds)) : SOk K F O (ρ.set i (.dat (.lst ds))) σ H := by
  have hl : i < ρ.length := (List.getElem?_eq_some_iff.mp hi).1
  have nown : ¬ owns (ρ.set i (.dat (.lst ds))) p := fun ⟨es, h⟩ => by
    obtain ⟨k, hk⟩ := List.getElem?_of_mem h
    by_cases e : i = k
    · subst e
      rw [List.getElem?_set_self hl] at hk
      cases hk
    · rw [List.getElem?_set_ne e] at hk
      exact e (I.nd i k p ds es hi hk)
  have sub : ∀ a, UU O (ρ.set i (.dat (.lst ds))) a → UU O ρ a := fun a z => z.elim .inl fun z => .inr (owns_set_dat hi a z)
  have ex : Ex (hid (UU O ρ) H) (hid (UU O (ρ.set i (.dat (.lst ds)))) H) := ex_hid fun a o _ n h => ⟨fun z => n (sub a z), h⟩
  have nO : ¬ O p := I.nO ⟨ds, List.mem_of_getElem? hi⟩
  refine ⟨by rw [List.length_set]; exact I.len, fun k d hk => ?_, fun k q es hk => ?_, fun k l q es es' hk hl' => ?_, I.fr, I.od, I.tb, I.ft⟩
  · by_cases e : i = k
    · subst e
      rw [List.getElem?_set_self hl] at hk
      cases hk
      obtain ⟨h1, _, vs, h2, h3⟩ := I.mt i p ds hi
      exact ⟨.ref p, h1, .lst (hid_of (fun z => z.elim nO nown) h2) (h3.mono ex)⟩
    · rw [List.getElem?_set_ne e] at hk
      obtain ⟨v, h1, h2⟩ := I.dat k d hk
      exact ⟨v, h1, h2.mono ex⟩
  · by_cases e : i = k
    · subst e
      rw [List.getElem?_set_self hl] at hk
      cases hk
    · rw [List.getElem?_set_ne e] at hk
      obtain ⟨h1, h2, vs, h3, h4⟩ := I.mt k q es hk
      exact ⟨h1, h2, vs, h3, h4.mono ex⟩
  · by_cases e : i = k
    · subst e
      rw [List.getElem?_set_self hl] at hk
      cases hk
    · by_cases e' : i = l
      · subst e'
        rw [List.getElem?_set_self hl] at hl'
        cases hl'
      · rw [List.getElem?_set_ne e] at hk
        rw [List.getElem?_set_ne e'] at hl'
        exact I.nd k l q es es' hk hl'
end
end VL
end

section
set_option Elab.async false
set_option linter.all false
set_option maxRecDepth 100000
set_option maxHeartbeats 4000000
namespace VL
open PySem PySem.Spec PyProof.Rows L2

/-! ### an own list read in passing -/
def frz : Lo → Lo := List.map fun
  | .mut _ ds => .dat (.lst ds)
  | s => s
section
variable {X : Cx} {e : Expr} {ρ ρ1 ρ2 : Lo} {d : D} {K : PySem.W.Frag} {H H' : Hp} {F : Hp} {O : Addr → Prop} {σ : L2.St} {i : Nat} {p : Addr} {ds : List D}
theorem frz_get {k : Nat} {s : Sl} (h : (frz ρ)[k]? = some s) : (∃ p ds, ρ[k]? = some (.mut p ds) ∧ s = .dat (.lst ds)) ∨ (ρ[k]? = some s ∧ ∀ p ds, s ≠ .mut p ds) := by
  unfold frz at h
  rw [List.getElem?_map] at h
  cases q : ρ[k]? with
  | none => rw [q] at h; cases h
  | some t =>
    rw [q] at h
    cases t with
    | un => cases h; exact .inr ⟨rfl, fun _ _ z => nomatch z⟩
    | dat d => cases h; exact .inr ⟨rfl, fun _ _ z => nomatch z⟩
    | «mut» p ds => cases h; exact .inl ⟨p, ds, rfl, rfl⟩
theorem frz_owns {a : Addr} : ¬ owns (frz ρ) a := fun ⟨ds, h⟩ => by
  obtain ⟨k, hk⟩ := List.getElem?_of_mem h
  rcases frz_get hk with ⟨p, es, _, z⟩ | ⟨_, z⟩
  · cases z
  · exact z _ _ rfl
theorem SOk.ext (I : SOk K F O ρ σ H) (e : ExN H H') (tb : TB H') : SOk K F O ρ σ H' := by
  have exh : Ex (hid (UU O ρ) H) (hid (UU O ρ) H') := ex_hid fun a u t n h => ⟨n, e a u t h⟩
  refine ⟨I.len, fun i d h => ?_, fun i q ds h => ?_, I.nd, fun a o h => e a o (I.ft a o h) (I.fr a o h), I.od, tb, I.ft⟩
  · obtain ⟨v, h1, h2⟩ := I.dat i d h
    exact ⟨v, h1, h2.mono exh⟩
  · obtain ⟨h1, h2, vs, h3, h4⟩ := I.mt i q ds h
    exact ⟨h1, h2, vs, e _ _ inferInstance h3, h4.mono exh⟩
theorem SOk.frzAll (I : SOk K F O ρ σ H) : SOk K F O (frz ρ) σ H := by
  have ex : Ex (hid (UU O ρ) H) (hid (UU O (frz ρ)) H) := ex_hid fun a o _ n h => ⟨fun z => z.elim (fun z => n (.inl z)) frz_owns, h⟩
  refine ⟨by unfold frz; rw [List.length_map]; exact I.len, fun k d hk => ?_, fun k q es hk => ?_, fun k l q es es' hk hl' => ?_, I.fr, I.od, I.tb, I.ft⟩
  · rcases frz_get hk with ⟨p, ds, h1, h2⟩ | ⟨h1, _⟩
    · cases h2
      obtain ⟨q1, _, vs, q2, q3⟩ := I.mt k p ds h1
      exact ⟨.ref p, q1, .lst (hid_of (fun z => z.elim (I.nO ⟨ds, List.mem_of_getElem? h1⟩) frz_owns) q2) (q3.mono ex)⟩
    · obtain ⟨v, q1, q2⟩ := I.dat k d h1
      exact ⟨v, q1, q2.mono ex⟩
  · exact absurd ⟨es, List.mem_of_getElem? hk⟩ frz_owns
  · exact absurd ⟨es, List.mem_of_getElem? hk⟩ frz_owns
theorem Ex.frzSup (J : SOk K (VL.sup (frz ρ) H) O ρ2 σ H') : ExN H H' := fun a o _ h => J.fr a o (hid_of frz_owns h)
theorem c_bor (him : immut d = true) (h : CE X (frz ρ) e d (frz ρ)) : CE X ρ e d ρ := ⟨rfl, fun F O σ H Q I q => h.2 _ O σ H Q I.frzAll.sup fun v H' J r => by
  have e1 := Ex.frzSup J
  have I' := I.ext e1 J.tb
  exact q v H' I' (Rep.hide (fun a n z => by
    rcases z with z | z
    · exact absurd (.inl z) n
    · exact I'.ownH z) him r)⟩
theorem n_bor (him : immutL ds = true) (h : CN X (frz ρ) e ds (frz ρ)) : CN X ρ e ds ρ := ⟨rfl, fun F O σ H Q I q => h.2 _ O σ H Q I.frzAll.sup fun p vs H1 J hp r => by
  have e1 := Ex.frzSup J
  have I' := I.ext e1 J.tb
  exact q p vs H1 I' hp (Reps.hide (fun a n z => by
    rcases z with z | z
    · exact absurd (.inl z) n
    · exact I'.ownH z) him r)⟩
theorem t_bor {k : Bool} (h : CT X (frz ρ) e k (frz ρ)) : CT X ρ e k ρ := ⟨rfl, fun F O σ H Q I q => h.2 _ O σ H Q I.frzAll.sup fun H' J => q H' (I.ext (Ex.frzSup J) J.tb)⟩

/-! ### defs: what they promise -/
structure Er where
  C : Addr
  fs : List (Str × D)
def ErRep (K : PySem.W.Frag) (H : Hp) (cls : Value) (dd : Option Addr) (e : Er) : Prop :=
  cls = .ref e.C ∧ ((e.fs = [] ∧ dd = none) ∨ ∃ a fvs, dd = some a ∧ H a = some (.xd fvs) ∧ RepF K H fvs e.fs)
abbrev Res := Except Er D
abbrev Spec := Lo → (Res → Lo → Prop) → Prop
/-- what a def hands back, and what it leaves -/
def Post (K : PySem.W.Frag) (F : Hp) (O : Addr → Prop) (vs : List V) (ρ : Lo) (Q : VK) (E : XK) (r : Res) (ρ' : Lo) : Prop := owns ρ' = owns ρ → ∀ H', SOk K F O ρ' (vs.map some) H' →
  match r with
  | .ok d => ∀ v, Rep K (hid (UU O ρ') H') v d → Q v H'
  | .error e => ∀ cls dd, ErRep K (hid (UU O ρ') H') cls dd e → E cls dd H'
def spV (K : PySem.W.Frag) (S : Spec) : Sp := fun vs H Q E => ∃ O ρ, SOk K (VL.sup ρ H) O ρ (vs.map some) H ∧ S ρ (Post K (VL.sup ρ H) O vs ρ Q E)
structure FnV (P : Program) (w : World) (K : PySem.W.Frag) (mg : Str → Option Value) (base : Heap) (k : Nat) (x : Str) (S : Spec) : Prop where
  mono : ∀ ρ (R R' : Res → Lo → Prop), (∀ r ρ', R r ρ' → R' r ρ') → S ρ R → S ρ R'
  ex : ∃ f fd ps, FnOk P w K mg base (L2N.CX P w) k f fd ps (spV K S) ∧ mg x = some (.ref f) ∧ PySem.W.keepIn K (.ref f) = true ∧ Binds K fd ps []
theorem FnV.up {P : Program} {w : World} {mg : Str → Option Value} {base : Heap} {j k : Nat} {x : Str} {S : Spec} (F : FnV P w K mg base j x S) (h : j ≤ k) : FnV P w K mg base k x S :=
  ⟨F.mono, let ⟨f, fd, ps, a, b⟩ := F.ex; ⟨f, fd, ps, a.mono h, b⟩⟩
/-- data to a result, nothing changed -/
def detS (A : List D → Res → Prop) : Spec := fun ρ R => ∃ ds r, ρ = ds.map .dat ∧ A ds r ∧ R r ρ
theorem detS_mono {A : List D → Res → Prop} : ∀ ρ (R R' : Res → Lo → Prop), (∀ r ρ', R r ρ' → R' r ρ') → detS A ρ R → detS A ρ R' := fun _ _ _ h ⟨ds, r, e, a, q⟩ => ⟨ds, r, e, a, h _ _ q⟩
theorem owns_dats {ds : List D} {a : Addr} : ¬ owns (ds.map .dat) a := fun ⟨es, h⟩ => by
  obtain ⟨d, _, z⟩ := List.mem_map.mp h
  cases z
theorem hid_congr {U U' : Addr → Prop} (h : ∀ a, U a ↔ U' a) : hid U H = hid U' H := by
  have e : U = U' := funext fun a => propext (h a)
  rw [e]
theorem args_ok {vs : List V} {U : Addr → Prop} (r : Reps K (hid U H) vs ds) (od : ∀ a, U a → ∃ o, H a = some o ∧ NT o) (tb : TB H) : SOk K (VL.sup (ds.map .dat) H) U (ds.map .dat) (vs.map some) H := by
  have eu : ∀ a, U a ↔ UU U (ds.map .dat) a := fun a => ⟨.inl, fun z => z.elim id fun z => absurd z owns_dats⟩
  refine ⟨by rw [List.length_map, List.length_map, r.length], fun i d h => ?_, fun i p es h => ?_, fun i j p es es' h => ?_, hid_ex, fun a o => ?_, tb, fun _ _ h => nt_hid h⟩
  · rw [List.getElem?_map] at h
    cases q : ds[i]? with
    | none => rw [q] at h; cases h
    | some d' =>
      rw [q] at h
      cases h
      obtain ⟨v, e1, e2⟩ := r.get q
      refine ⟨v, by rw [List.getElem?_map, e1]; rfl, ?_⟩
      rw [← hid_congr eu]
      exact e2
  · exact absurd ⟨es, List.mem_of_getElem? h⟩ owns_dats
  · exact absurd ⟨es, List.mem_of_getElem? h⟩ owns_dats
  · obtain ⟨u, e, t⟩ := od a o
    exact ⟨u, hid_of owns_dats e⟩
theorem ex_dats {ds : List D} (J : SOk K (VL.sup (ds.map .dat) H) O ρ2 σ H') : ExN H H' := fun a o _ h => J.fr a o (hid_of owns_dats h)
theorem SOk.odU (I : SOk K F O ρ σ H) : ∀ a, UU O ρ a → ∃ o, H a = some o ∧ NT o := fun a z => by
  rcases z with z | z
  · obtain ⟨u, e⟩ := I.od a z
    exact ⟨u, I.fr a u e, I.ft a u e⟩
  · obtain ⟨vs, e⟩ := I.ownH z
    exact ⟨_, e, inferInstance⟩
section
variable {k : Nat} {x : Str} {S : Spec} {p pos : Pos} {es : List Expr}
/-- f(e, ..) on data, nothing raised -/
theorem c_call (Fn : FnV X.prog X.w X.K X.mg X.base k x S) (hr : Room k X.A) (ha : CD X ρ (e :: es) ds ρ1) (hS : ∀ R : Res → Lo → Prop, R (.ok d) (ds.map .dat) → S (ds.map .dat) R) (hg : Gl X x := by rfl) (hdb : (x == ("__debug__" : Str)) = false := by decide)
    (he : starEach (e :: es) X.env = (false, eval e X.env) :: starEach es X.env := by rfl) (hpl : (backTo pos (starEach es X.env)).any (·.1) = false := by rfl) : CE X ρ (.Call (.Name x p) (e :: es) [] pos) d ρ1 := by
  obtain ⟨f, fd, ps, hF, hm, hk, hb⟩ := Fn.ex
  refine .of (pe_call hF hr hg hm hk hb .nil passLN pa_tw hdb he hpl) ⟨ha.1, fun F O σ H Q I q => ha.2 F O σ H _ I fun vs H1 J r => ?_⟩
  refine ⟨UU O ρ1, ds.map .dat, ?_, ?_⟩
  · rw [List.append_nil]
    exact args_ok r J.odU J.tb
  · refine hS _ fun _ H' L v rv => q v H' (J.ext (ex_dats L) L.tb) ?_
    rw [hid_congr (U := UU O ρ1) (U' := UU (UU O ρ1) (ds.map .dat)) fun a => ⟨.inl, fun z => z.elim id fun z => absurd z owns_dats⟩]
    exact rv
end
end

/-! ### targets -/
inductive Tg where
  | nm (i : Nat) | tp (l : List Tg)
mutual
def gOf (K : PySem.W.Frag) : Tg → TG
  | .nm i => gName i
  | .tp l => gTup K l.length (gsOf K l)
def gsOf (K : PySem.W.Frag) : List Tg → TGs
  | [] => gNil
  | t :: l => gCons (gOf K t) (gsOf K l)
end
mutual
inductive Bind : Tg → D → Lo → Lo → Prop
  | nm {i : Nat} {d : D} {ρ : Lo} : Bind (.nm i) d ρ (ρ.set i (.dat d))
  | tp {l : List Tg} {ds : List D} {ρ ρ' : Lo} : BindL l ds ρ ρ' → Bind (.tp l) (.tup ds) ρ ρ'
inductive BindL : List Tg → List D → Lo → Lo → Prop
  | nil {ρ : Lo} : BindL [] [] ρ ρ
  | cons {t : Tg} {l : List Tg} {d : D} {ds : List D} {ρ ρ1 ρ2 : Lo} : Bind t d ρ ρ1 → BindL l ds ρ1 ρ2 → BindL (t :: l) (d :: ds) ρ ρ2
end
mutual
def Tg.slots : Tg → List Nat
  | .nm i => [i]
  | .tp l => slotsL l
def slotsL : List Tg → List Nat
  | [] => []
  | t :: l => t.slots ++ slotsL l
end
mutual
theorem Bind.len2 : ∀ {T : Tg} {d : D} {ρ ρ' : Lo}, Bind T d ρ ρ' → ρ'.length = ρ.length
  | _, _, _, _, .nm => List.length_set
  | _, _, _, _, .tp b => b.len2
theorem BindL.len2 : ∀ {l : List Tg} {ds : List D} {ρ ρ' : Lo}, BindL l ds ρ ρ' → ρ'.length = ρ.length
  | _, _, _, _, .nil => rfl
  | _, _, _, _, .cons b bl => bl.len2.trans b.len2
end
section
variable {X : Cx} {e : Expr} {ρ ρ1 ρ2 : Lo} {d : D} {K : PySem.W.Frag} {H H' : Hp} {F : Hp} {O : Addr → Prop} {σ : L2.St} {i : Nat} {p : Addr} {ds : List D}
theorem owns_set {a : Addr} {s : Sl} (hs : ∀ p ds, s ≠ .mut p ds) : owns (ρ.set i s) a → owns ρ a := fun ⟨es, h⟩ => by
  rcases List.mem_or_eq_of_mem_set h with h | h
  · exact ⟨es, h⟩
  · exact absurd h.symm (hs _ _)
theorem UU_set {a : Addr} {s : Sl} (hs : ∀ p ds, s ≠ .mut p ds) : UU O (ρ.set i s) a → UU O ρ a := fun z => z.elim .inl fun z => .inr (owns_set hs z)
theorem datNe : ∀ (p : Addr) (ds : List D), Sl.dat d ≠ .mut p ds := fun p ds z => by cases z
/-- a datum stored -/
theorem SOk.set {v : V} (I : SOk K F O ρ σ H) (r : Rep K (hid (UU O ρ) H) v d) : SOk K F O (ρ.set i (.dat d)) (σ.set i (some v)) H := by
  have ex : Ex (hid (UU O ρ) H) (hid (UU O (ρ.set i (.dat d))) H) := ex_hid fun a o _ n h => ⟨fun z => n (UU_set datNe z), h⟩
  refine ⟨by rw [List.length_set, List.length_set]; exact I.len, fun k d' hk => ?_, fun k q es hk => ?_, fun k l q es es' hk hl => ?_, I.fr, I.od, I.tb, I.ft⟩
  · by_cases e : i = k
    · subst e
      have hl : i < ρ.length := by
        have := (List.getElem?_eq_some_iff.mp hk).1
        rw [List.length_set] at this
        exact this
      rw [List.getElem?_set_self hl] at hk
      cases hk
      exact ⟨v, List.getElem?_set_self (by rw [I.len]; exact hl), r.mono ex⟩
    · rw [List.getElem?_set_ne e] at hk
      obtain ⟨u, h1, h2⟩ := I.dat k d' hk
      exact ⟨u, by rw [List.getElem?_set_ne e]; exact h1, h2.mono ex⟩
  · by_cases e : i = k
    · subst e
      have hl : i < ρ.length := by
        have := (List.getElem?_eq_some_iff.mp hk).1
        rw [List.length_set] at this
        exact this
      rw [List.getElem?_set_self hl] at hk
      cases hk
    · rw [List.getElem?_set_ne e] at hk
      obtain ⟨h1, h2, vs, h3, h4⟩ := I.mt k q es hk
      exact ⟨by rw [List.getElem?_set_ne e]; exact h1, h2, vs, h3, h4.mono ex⟩
  · have ne : ∀ {k : Nat} {q : Addr} {es : List D}, (ρ.set i (.dat d))[k]? = some (.mut q es) → i ≠ k := fun {k q es} hk e => by
      subst e
      have hl : i < ρ.length := by
        have := (List.getElem?_eq_some_iff.mp hk).1
        rw [List.length_set] at this
        exact this
      rw [List.getElem?_set_self hl] at hk
      cases hk
    have n1 := ne hk
    have n2 := ne hl
    rw [List.getElem?_set_ne n1] at hk
    rw [List.getElem?_set_ne n2] at hl
    exact I.nd k l q es es' hk hl
mutual
theorem Bind.run : ∀ {T : Tg} {d : D} {ρ ρ' : Lo} {v : V} {σ : L2.St} {Q : L2.St → Hp → Prop}, Bind T d ρ ρ' → SOk K F O ρ σ H → Rep K (hid (UU O ρ) H) v d →
    (∀ σ', SOk K F O ρ' σ' H → (∀ k, k ∉ T.slots → σ'[k]? = σ[k]?) → (∀ (v : V) (d : D), Rep K (hid (UU O ρ) H) v d → Rep K (hid (UU O ρ') H) v d) → Q σ' H) → gOf K T v σ H Q
  | _, _, _, _, v, σ, Q, .nm, I, r, q => q _ (I.set r) (fun k hk => List.getElem?_set_ne fun e => hk (by rw [e]; exact List.mem_cons_self)) fun w e re => re.mono (ex_hid fun a o _ n h => ⟨fun z => n (UU_set datNe z), h⟩)
  | _, _, _, _, _, σ, Q, .tp b, I, .tup h1 rs, q => ⟨_, _, rfl, hid_ex.t h1, by rw [rs.length]; exact (BindL.len b).symm, BindL.run b I rs fun σ' J hk hr => q σ' J hk hr⟩
theorem BindL.run : ∀ {l : List Tg} {ds : List D} {ρ ρ' : Lo} {vs : List V} {σ : L2.St} {Q : L2.St → Hp → Prop}, BindL l ds ρ ρ' → SOk K F O ρ σ H → Reps K (hid (UU O ρ) H) vs ds →
    (∀ σ', SOk K F O ρ' σ' H → (∀ k, k ∉ slotsL l → σ'[k]? = σ[k]?) → (∀ (v : V) (d : D), Rep K (hid (UU O ρ) H) v d → Rep K (hid (UU O ρ') H) v d) → Q σ' H) → gsOf K l vs σ H Q
  | _, _, _, _, _, σ, Q, .nil, I, .nil, q => ⟨rfl, q σ I (fun _ _ => rfl) fun _ _ r => r⟩
  | _, _, _, _, _, σ, Q, .cons b bl, I, .cons r rs, q => ⟨_, _, rfl, Bind.run b I r fun σ1 J hk hr => BindL.run bl J (repsMap hr rs) fun σ2 L hk2 hr2 => q σ2 L (fun k hn => (hk2 k fun z => hn (List.mem_append_right _ z)).trans (hk k fun z => hn (List.mem_append_left _ z))) fun w e re => hr2 w e (hr w e re)⟩
theorem BindL.len : ∀ {l : List Tg} {ds : List D} {ρ ρ' : Lo}, BindL l ds ρ ρ' → l.length = ds.length
  | _, _, _, _, .nil => rfl
  | _, _, _, _, .cons _ bl => by rw [List.length_cons, List.length_cons, bl.len]
theorem repsMap {H1 H2 : Hp} (h : ∀ (v : V) (d : D), Rep K H1 v d → Rep K H2 v d) : ∀ {vs : List V} {ds : List D}, Reps K H1 vs ds → Reps K H2 vs ds
  | _, _, .nil => .nil
  | _, _, .cons r rs => .cons (h _ _ r) (repsMap h rs)
end
end
end VL
end

section
set_option Elab.async false
set_option linter.all false
set_option maxRecDepth 100000
set_option maxHeartbeats 4000000
namespace VL
open PySem PySem.Spec PyProof.Rows L2

/-! ### statements -/
structure WE where
  nx : Lo → Prop
  rt : D → Lo → Prop
  bk : Lo → Prop := fun _ => False
  ct : Lo → Prop := fun _ => False
  er : Er → Lo → Prop := fun _ _ => False
structure Real (X : Cx) (F : Hp) (O : Addr → Prop) (W : WE) (D : Ends) : Prop where
  nx : ∀ ρ σ H, W.nx ρ → SOk X.K F O ρ σ H → D.nx σ H
  rt : ∀ d ρ σ H v, W.rt d ρ → SOk X.K F O ρ σ H → Rep X.K (hid (UU O ρ) H) v d → D.rt v H
  bk : ∀ ρ σ H, W.bk ρ → SOk X.K F O ρ σ H → D.bk σ H
  ct : ∀ ρ σ H, W.ct ρ → SOk X.K F O ρ σ H → D.ct σ H
  er : ∃ Wx : WX, L2N.Takes X Wx ∧ ∀ e ρ σ H cls dd, W.er e ρ → SOk X.K F O ρ σ H → ErRep X.K (hid (UU O ρ) H) cls dd e → Wx cls dd σ H
/-- the context of a body -/
structure Bd (X : Cx) : Prop where
  calm : X.calm = true
  nd : X.N.Nodup
  ps : PassesOwn (model X.prog X.w) X.A X.env X.xe
structure Bdn (X : Cx) : Prop where
  nd : X.N.Nodup
instance {X : Cx} : Coe (Bd X) (Bdn X) := ⟨fun B => ⟨B.nd⟩⟩
def CS (X : Cx) (ρ : Lo) (st : Stmt) (W : WE) : Prop := ∀ F O σ H D, SOk X.K F O ρ σ H → Real X F O W D → ∀ (pins : List (Addr × Obj)) (s : Shared), Inv X pins σ H s → wpAny (model X.prog X.w) X.A (exec st X.env) (SP X pins D) X.xe s
def CSs (X : Cx) (ρ : Lo) (ss : List Stmt) (W : WE) : Prop := ∀ F O σ H D, SOk X.K F O ρ σ H → Real X F O W D → ∀ (pins : List (Addr × Obj)) (s : Shared), Inv X pins σ H s → wpAny (model X.prog X.w) X.A (execs ss X.env) (SP X pins D) X.xe s
def tws (X : Cx) (st : Stmt) : TS := fun D σ H => ∀ (pins : List (Addr × Obj)) (s : Shared), Inv X pins σ H s → wpAny (model X.prog X.w) X.A (exec st X.env) (SP X pins D) X.xe s
def twss (X : Cx) (ss : List Stmt) : TS := fun D σ H => ∀ (pins : List (Addr × Obj)) (s : Shared), Inv X pins σ H s → wpAny (model X.prog X.w) X.A (execs ss X.env) (SP X pins D) X.xe s
/-- an expression with all its outcomes -/
def CQ (X : Cx) (ρ : Lo) (e : Expr) (R : Res → Lo → Prop) : Prop := ∀ F O σ H (Q : VK) (Wx : WX), SOk X.K F O ρ σ H → L2N.Takes X Wx →
  (∀ d ρ' v H', R (.ok d) ρ' → owns ρ' = owns ρ → SOk X.K F O ρ' σ H' → Rep X.K (hid (UU O ρ') H') v d → Q v H') →
  (∀ er ρ' H' cls dd, R (.error er) ρ' → SOk X.K F O ρ' σ H' → ErRep X.K (hid (UU O ρ') H') cls dd er → Wx cls dd σ H') →
  ∀ (pins : List (Addr × Obj)) (s : Shared), Inv X pins σ H s → wpAny (model X.prog X.w) X.A (eval e X.env) (EP X pins σ Q) X.xe s
section
variable {X : Cx} {e a b c : Expr} {es : List Expr} {ρ ρ1 ρ2 ρ' : Lo} {x y d : D} {pos p p2 : Pos} {st : Stmt} {ss rest A B : List Stmt} {W W' : WE} {F F' : Hp} {O : Addr → Prop} {σ : L2.St} {H H' : Hp} {E : Ends} {i j : Nat} {n m : Str} {ds : List D} {q : Addr}
theorem ps_tw : PS X st (tws X st) := ⟨fun pins s _ _ _ I h => h pins s I⟩
theorem pss_tw : PSs X ss (twss X ss) := ⟨fun pins s _ _ _ I h => h pins s I⟩
theorem Real.up (r : Real X F O W E) (e : Ex F F') (od : ∀ a, O a → ∃ o, F a = some o) : Real X F' O W E :=
  ⟨fun ρ σ H h I => r.nx ρ σ H h (I.weak e od), fun d ρ σ H v h I q => r.rt d ρ σ H v h (I.weak e od) q, fun ρ σ H h I => r.bk ρ σ H h (I.weak e od), fun ρ σ H h I => r.ct ρ σ H h (I.weak e od),
    let ⟨Wx, t, h⟩ := r.er; ⟨Wx, t, fun er ρ σ H cls dd w I q => h er ρ σ H cls dd w (I.weak e od) q⟩⟩
/-- another normal end -/
theorem Real.nxt {N : L2.St → Hp → Prop} {P : Lo → Prop} (r : Real X F O W E) (h : ∀ ρ σ H, P ρ → SOk X.K F O ρ σ H → N σ H) : Real X F O { W with nx := P } { E with nx := N } := ⟨h, r.rt, r.bk, r.ct, r.er⟩
theorem CSs.imp (h : CSs X ρ ss W) (n1 : ∀ ρ, W.nx ρ → W'.nx ρ) (n2 : ∀ d ρ, W.rt d ρ → W'.rt d ρ) (n3 : ∀ ρ, W.bk ρ → W'.bk ρ) (n4 : ∀ ρ, W.ct ρ → W'.ct ρ) (n5 : ∀ er ρ, W.er er ρ → W'.er er ρ) : CSs X ρ ss W' :=
  fun F O σ H E I r => h F O σ H E I ⟨fun ρ σ H w J => r.nx ρ σ H (n1 ρ w) J, fun d ρ σ H v w J q => r.rt d ρ σ H v (n2 d ρ w) J q, fun ρ σ H w J => r.bk ρ σ H (n3 ρ w) J, fun ρ σ H w J => r.ct ρ σ H (n4 ρ w) J,
    let ⟨Wx, t, h⟩ := r.er; ⟨Wx, t, fun er ρ σ H cls dd w J q => h er ρ σ H cls dd (n5 er ρ w) J q⟩⟩
theorem css_nil (h : W.nx ρ) : CSs X ρ [] W := fun F O σ H E I r pins s J => pss_nil.run pins s σ H E J (r.nx ρ σ H h I)
theorem css_cons (h : CS X ρ st { W with nx := fun ρ' => CSs X ρ' rest W }) : CSs X ρ (st :: rest) W := fun F O σ H E I r pins s J =>
  (pss_cons ps_tw (pss_tw (ss := rest))).run pins s σ H E J (h F O σ H _ I (r.nxt fun ρ' σ' H' k I' => k F O σ' H' E I' r))
theorem css_of {t : TS} (hp : PS X st t) (h : ∀ F O σ H E, SOk X.K F O ρ σ H → Real X F O { W with nx := fun ρ' => CSs X ρ' rest W } E → t E σ H) : CSs X ρ (st :: rest) W :=
  css_cons fun F O σ H E I r pins s J => hp.run pins s σ H E J (h F O σ H E I r)
/-- let an own list go -/
theorem css_freeze (hi : ρ[i]? = some (.mut q ds)) (h : CSs X (ρ.set i (.dat (.lst ds))) ss W) : CSs X ρ ss W := fun F O σ H E I r => h F O σ H E (I.freeze hi) r
theorem CE.cq (h : CE X ρ e d ρ1) {R : Res → Lo → Prop} (r : R (.ok d) ρ1) : CQ X ρ e R := fun F O σ H Q Wx I t q _ pins s J => h.2 F O σ H Q I (fun v H' I' rv => q d ρ1 v H' r h.1 I' rv) pins s J

/-! name = e -/
theorem css_asg (i : Nat) (B : Bdn X) (he : CE X ρ e d ρ1) (k : CSs X (ρ1.set i (.dat d)) rest W) (hi : X.N[i]? = some n := by rfl) (hx : Loc X.env.scope n := by first | exact Or.inl rfl | exact Or.inr rfl)
    (hs : swapsWith e (some (.Name n p)) pos.line X.env = pure false := by rfl) (hf : X.fn n = true ∨ X.env.scope.names.lookup n = some .local := by first | exact .inl rfl | exact .inr rfl) : CSs X ρ (.Assign [.Name n p] e pos :: rest) W :=
  css_of (ps_set B.nd hi hx pe_tw hs hf) fun F O σ H E I r => he.2 F O σ H _ I fun v H1 J rv => r.nx _ _ _ k (J.set rv)
theorem css_asgQ (i : Nat) (B : Bdn X) (he : CQ X ρ e fun r ρ' => match r with | .ok d => CSs X (ρ'.set i (.dat d)) rest W | .error er => W.er er ρ') (hi : X.N[i]? = some n := by rfl) (hx : Loc X.env.scope n := by first | exact Or.inl rfl | exact Or.inr rfl)
    (hs : swapsWith e (some (.Name n p)) pos.line X.env = pure false := by rfl) (hf : X.fn n = true ∨ X.env.scope.names.lookup n = some .local := by first | exact .inl rfl | exact .inr rfl) : CSs X ρ (.Assign [.Name n p] e pos :: rest) W :=
  css_of (ps_set B.nd hi hx pe_tw hs hf) fun F O σ H E I r => by
    obtain ⟨Wx, t, h⟩ := r.er
    exact he F O σ H _ Wx I t (fun d ρ' v H' k _ J rv => r.nx _ _ _ k (J.set rv)) fun er ρ' H' cls dd k J rv => h er ρ' σ H' cls dd k J rv
/-- .. a new list that will change -/
theorem SOk.own1 {vs : List V} (J : SOk X.K F O ρ σ H) (hp : H q = none) (r : Reps X.K (hid (UU O ρ) H) vs ds) (hi : i < ρ.length) : SOk X.K F O (ρ.set i (.mut q ds)) (σ.set i (some (.ref q))) (upd H q (.lst vs)) := by
  have nu := J.nU hp
  have J' := J.new (o := .lst vs) hp
  have r' : Reps X.K (hid (UU O ρ) (upd H q (.lst vs))) vs ds := r.mono (ex_new hp)
  have ow : ∀ a, owns (ρ.set i (.mut q ds)) a → owns ρ a ∨ a = q := fun a ⟨es, h⟩ => by
    rcases List.mem_or_eq_of_mem_set h with h | h
    · exact .inl ⟨es, h⟩
    · cases h
      exact .inr rfl
  have nF : F q = none := by
    cases z : F q with
    | none => rfl
    | some o =>
      rw [J.fr q o z] at hp
      cases hp
  have exh : Ex (hid (UU O ρ) H) (hid (UU O (ρ.set i (.mut q ds))) (upd H q (.lst vs))) := ex_hid fun a o _ n h => by
    have nq : a ≠ q := ne_of_none h hp
    refine ⟨fun z => ?_, by rw [upd_ne nq]; exact h⟩
    rcases z with z | z
    · exact n (.inl z)
    · rcases ow a z with z | z
      · exact n (.inr z)
      · exact nq z
  refine ⟨by rw [List.length_set, List.length_set]; exact J.len, fun k d' hk => ?_, fun k q' es hk => ?_, fun k l q' es es' hk hl => ?_, J'.fr, J.od, J'.tb, J.ft⟩
  · by_cases e : i = k
    · subst e
      rw [List.getElem?_set_self hi] at hk
      cases hk
    · rw [List.getElem?_set_ne e] at hk
      obtain ⟨u, h1, h2⟩ := J.dat k d' hk
      exact ⟨u, by rw [List.getElem?_set_ne e]; exact h1, h2.mono exh⟩
  · by_cases e : i = k
    · subst e
      rw [List.getElem?_set_self hi] at hk
      cases hk
      exact ⟨List.getElem?_set_self (by rw [J.len]; exact hi), nF, vs, upd_same, r.mono exh⟩
    · rw [List.getElem?_set_ne e] at hk
      obtain ⟨h1, h2, ws, h3, h4⟩ := J.mt k q' es hk
      exact ⟨by rw [List.getElem?_set_ne e]; exact h1, h2, ws, by rw [upd_ne (ne_of_none h3 hp)]; exact h3, h4.mono exh⟩
  · have hq : ∀ (k : Nat) (es : List D), ρ[k]? ≠ some (.mut q es) := fun k es h => by
      obtain ⟨_, _, ws, h3, _⟩ := J.mt k q es h
      rw [hp] at h3
      cases h3
    by_cases e : i = k
    · subst e
      by_cases e' : i = l
      · exact e'
      · rw [List.getElem?_set_self hi] at hk
        cases hk
        rw [List.getElem?_set_ne e'] at hl
        exact absurd hl (hq l es')
    · rw [List.getElem?_set_ne e] at hk
      by_cases e' : i = l
      · subst e'
        rw [List.getElem?_set_self hi] at hl
        cases hl
        exact absurd hk (hq k es)
      · rw [List.getElem?_set_ne e'] at hl
        exact J.nd k l q' es es' hk hl
theorem css_asgN (i : Nat) (B : Bdn X) (he : CN X ρ e ds ρ1) (k : ∀ q, CSs X (ρ1.set i (.mut q ds)) rest W) (hl : i < ρ1.length := by first | decide | simp) (hi : X.N[i]? = some n := by rfl) (hx : Loc X.env.scope n := by first | exact Or.inl rfl | exact Or.inr rfl)
    (hs : swapsWith e (some (.Name n p)) pos.line X.env = pure false := by rfl) (hf : X.fn n = true ∨ X.env.scope.names.lookup n = some .local := by first | exact .inl rfl | exact .inr rfl) : CSs X ρ (.Assign [.Name n p] e pos :: rest) W :=
  css_of (ps_set B.nd hi hx pe_tw hs hf) fun F O σ H E I r => he.2 F O σ H _ I fun q vs H1 J hp rv => r.nx _ _ _ (k q) (J.own1 hp rv hl)

/-! e as a statement, return, if, pass, break, continue -/
theorem css_expr (he : CE X ρ e d ρ1) (k : CSs X ρ1 rest W) (hs : swapsWith e none pos.line X.env = pure false := by rfl) : CSs X ρ (.Expr e pos :: rest) W := css_of (ps_expr pe_tw hs) fun F O σ H E I r => he.2 F O σ H _ I fun v H1 J _ => r.nx _ _ _ k J
theorem css_exprQ (he : CQ X ρ e fun r ρ' => match r with | .ok _ => CSs X ρ' rest W | .error er => W.er er ρ') (hs : swapsWith e none pos.line X.env = pure false := by rfl) : CSs X ρ (.Expr e pos :: rest) W := css_of (ps_expr pe_tw hs) fun F O σ H E I r => by
  obtain ⟨Wx, t, h⟩ := r.er
  exact he F O σ H _ Wx I t (fun d ρ' v H' k _ J rv => r.nx _ _ _ k J) fun er ρ' H' cls dd k J rv => h er ρ' σ H' cls dd k J rv
theorem css_ret (he : CE X ρ e d ρ1) (k : W.rt d ρ1) : CSs X ρ (.Return (some e) pos :: rest) W := css_of (ps_ret pe_tw) fun F O σ H E I r => he.2 F O σ H _ I fun v H1 J rv => r.rt d ρ1 σ H1 v k J rv
theorem css_retQ (he : CQ X ρ e fun r ρ' => match r with | .ok d => W.rt d ρ' | .error er => W.er er ρ') : CSs X ρ (.Return (some e) pos :: rest) W := css_of (ps_ret pe_tw) fun F O σ H E I r => by
  obtain ⟨Wx, t, h⟩ := r.er
  exact he F O σ H _ Wx I t (fun d ρ' v H' k _ J rv => r.rt d ρ' σ H' v k J rv) fun er ρ' H' cls dd k J rv => h er ρ' σ H' cls dd k J rv
theorem css_retN (k : W.rt .non ρ) : CSs X ρ (.Return none pos :: rest) W := css_of ps_retN fun F O σ H E I r => r.rt .non ρ σ H .non k I .non
theorem css_if {k : Bool} (hc : CT X ρ c k ρ1) (h1 : k = true → CSs X ρ1 A { W with nx := fun ρ' => CSs X ρ' rest W }) (h2 : k = false → CSs X ρ1 B { W with nx := fun ρ' => CSs X ρ' rest W }) : CSs X ρ (.If c A B pos :: rest) W :=
  css_of (ps_if pt_tw pss_tw pss_tw) fun F O σ H E I r => hc.2 F O σ H _ I fun H1 J => by
    cases k with
    | true => rw [if_pos rfl]; exact h1 rfl F O σ H1 E J r
    | false => rw [if_neg Bool.false_ne_true]; exact h2 rfl F O σ H1 E J r
theorem css_pass (k : CSs X ρ rest W) : CSs X ρ (.Pass pos :: rest) W := css_of ps_pass fun F O σ H E I r => r.nx _ _ _ k I
theorem css_break (k : W.bk ρ) : CSs X ρ (.Break pos :: rest) W := css_of ps_break fun F O σ H E I r => r.bk _ _ _ k I
theorem css_cont (k : W.ct ρ) : CSs X ρ (.Continue pos :: rest) W := css_of ps_continue fun F O σ H E I r => r.ct _ _ _ k I

/-! a, b = e (a tuple) -/
theorem css_tup {T : Tg} {tg : Expr} (B : Bd X) (he : CE X ρ e d ρ1) (hg : PG X tg (gOf X.K T)) (hb : Bind T d ρ1 ρ2) (k : CSs X ρ2 rest W) (hs : swapsWithSole [tg] e pos.line X.env = pure false := by rfl) (hw : swappedStores [tg] e X.env = pure none := by rfl)
    (h1 : (assignEach [tg] X.env).map (·.2) = [assign tg X.env] := by rfl) : CSs X ρ (.Assign [tg] e pos :: rest) W := css_of (ps_asg pe_tw hg hs hw h1) fun F O σ H E I r => he.2 F O σ H _ I fun v H1 J rv => hb.run J rv fun σ' L _ _ => r.nx _ _ _ k L
/-- a, b = x, y: two local names -/
theorem css_par (i j : Nat) {px py pt pt2 : Pos} {kt k2} (B : Bd X) (ha : CD X ρ [a, b] [x, y] ρ1) (k : CSs X ((ρ1.set i (.dat x)).set j (.dat y)) rest W) (hij : i ≠ j := by decide) (hi : X.N[i]? = some n := by rfl) (hj : X.N[j]? = some m := by rfl)
    (hx : X.env.scope.names.lookup n = some .local := by rfl) (hy : X.env.scope.names.lookup m = some .local := by rfl)
    (hw : swappedStores [.Tuple [.Name n px, .Name m py] kt pt] (.Tuple [a, b] k2 pt2) X.env = pure (some [n, m]) := by rfl)
    (hs : swapsWithSole [.Tuple [.Name n px, .Name m py] kt pt] (.Tuple [a, b] k2 pt2) pos.line X.env = pure false := by rfl) : CSs X ρ (.Assign [.Tuple [.Name n px, .Name m py] kt pt] (.Tuple [a, b] k2 pt2) pos :: rest) W :=
  css_of (ps_par B.calm B.nd hi hj hij hx hy pa_tw hw hs) fun F O σ H E I r => ha.2 F O σ H _ I fun vs H1 J rv => by
    obtain ⟨v, w, rfl, r1, r2⟩ := two_of rv
    refine ⟨v, w, rfl, r.nx _ _ _ k ((J.set r1).set (r2.mono (ex_hid fun a o _ nn h => ⟨fun z => nn (UU_set datNe z), h⟩)))⟩

/-! for -/
structure WK (K : PySem.W.Frag) (S T : Hp) (J : It) (ds : List D) : Prop where
  go : ∀ (i : Nat) H, i < ds.length → Ex S H → J.go i H
  stop : ∀ H, Ex S H → J.stop ds.length H
  yld : ∀ (i : Nat) H v H', i < ds.length → Ex S H → J.yld i H v H' → ∃ d, ds[i]? = some d ∧ ((H' = H ∧ Rep K T v d) ∨ ∃ p vs es, H p = none ∧ v = .ref p ∧ H' = upd H p (.tup vs) ∧ d = .tup es ∧ Reps K T vs es)
structure CI (X : Cx) (ρ : Lo) (tg iter : Expr) (ds : List D) (ρ' : Lo) : Prop where
  ex : ∃ wi, PI X tg iter wi ∧ owns ρ' = owns ρ ∧ ∀ F O σ H (R : It → Hp → Prop), SOk X.K F O ρ σ H → (∀ J H1, SOk X.K F O ρ' σ H1 → WK X.K (VL.sup ρ' H1) (hid (UU O ρ') H1) J ds → R J H1) → wi σ H R
/-- what the walk gives stands beside the state -/
theorem WK.got {J : It} {S T : Hp} {ρ' : Lo} {H' : Hp} {v : V} (w : WK X.K S T J ds) (hT : ∀ a o, T a = some o → S a = some o ∧ ¬ O a) (I : SOk X.K S O ρ' σ H) (hi : i < ds.length) (y : J.yld i H v H') : ∃ d, ds[i]? = some d ∧ SOk X.K S O ρ' σ H' ∧ Rep X.K (hid (UU O ρ') H') v d := by
  have sub : Ex T (hid (UU O ρ') H) := fun a o h => by
    obtain ⟨h1, h2⟩ := hT a o h
    have := I.ft a o h1
    exact hid_of (fun z => z.elim h2 fun z => by rw [I.own z] at h1; cases h1) (I.fr a o h1)
  obtain ⟨d, hd, h⟩ := w.yld i H v H' hi I.fr y
  refine ⟨d, hd, ?_⟩
  rcases h with ⟨rfl, r⟩ | ⟨p, vs, es, hp, rfl, rfl, rfl, r⟩
  · exact ⟨I, r.mono sub⟩
  · exact ⟨I.new hp, .tup (.of (I.newHid hp)) ((r.mono sub).mono (ex_new hp))⟩
theorem css_for {T : Tg} {tg iter : Expr} {body : List Stmt} (B : Bd X) (hi : CI X ρ tg iter ds ρ1) (hg : PG X tg (gOf X.K T)) (J : Nat → Lo → Prop) (h0 : J 0 ρ1)
    (hs : ∀ (i : Nat) d ρ, ds[i]? = some d → J i ρ → ∃ ρ', Bind T d ρ ρ' ∧ CSs X ρ' body { nx := J (i + 1), ct := J (i + 1), bk := fun ρ => CSs X ρ rest W, rt := W.rt, er := W.er })
    (hd : ∀ ρ, J ds.length ρ → CSs X ρ rest W) (hfs : ∀ x, foldedSetIterable iter X.env x = pure x := by intro _; rfl) : CSs X ρ (.For tg iter body [] pos :: rest) W := by
  obtain ⟨wi, hpi, how, hw⟩ := hi.ex
  refine css_of (ps_for B.ps B.calm hpi hg pss_tw hfs) fun F O σ H E I r => hw F O σ H _ I fun Jt H1 I1 wk => ?_
  have hT : ∀ a o, hid (UU O ρ1) H1 a = some o → VL.sup ρ1 H1 a = some o ∧ ¬ O a := fun a o h => by
    have := nt_hid h
    obtain ⟨n, h⟩ := of_hid h
    exact ⟨hid_of (fun z => n (.inr z)) h, fun z => n (.inl z)⟩
  have R' : Real X (VL.sup ρ1 H1) O { W with nx := fun ρ' => CSs X ρ' rest W } E := r.up I1.le_sup I1.od
  refine ⟨fun i m σ H => m = ds.length - i ∧ i ≤ ds.length ∧ ∃ ρi, J i ρi ∧ SOk X.K (VL.sup ρ1 H1) O ρi σ H, ⟨ds.length, by simp, Nat.zero_le _, ρ1, h0, I1.sup⟩, ?_⟩
  rintro i m σi Hi ⟨rfl, hle, ρi, hJ, Ii⟩
  by_cases hlt : i < ds.length
  · refine .inr ⟨wk.go i Hi hlt Ii.fr, fun σ' H' => ∃ ρi, J (i + 1) ρi ∧ SOk X.K (VL.sup ρ1 H1) O ρi σ' H', fun σ' H' h => ⟨ds.length - (i + 1), by omega, rfl, hlt, h⟩, fun v H' y => ?_⟩
    obtain ⟨d, hd', I2, rv⟩ := wk.got hT Ii hlt y
    obtain ⟨ρ', hb, hbody⟩ := hs i d ρi hd' hJ
    refine hb.run I2 rv fun σ' L _ _ => ?_
    refine hbody _ O σ' H' _ L ⟨fun ρ σ H h I => ⟨ρ, h, I⟩, R'.rt, R'.nx, fun ρ σ H h I => ⟨ρ, h, I⟩, R'.er⟩
  · have e : i = ds.length := by omega
    subst e
    exact .inl ⟨wk.stop Hi Ii.fr, R'.nx ρi σi Hi (hd ρi hJ) Ii⟩
/-! while -/
theorem css_while {body : List Stmt} (B : Bd X) (J : Nat → Lo → Prop) (m0 : Nat) (h0 : J m0 ρ)
    (hs : ∀ (m : Nat) ρ, J m ρ → ∃ k ρ', CT X ρ c k ρ' ∧ (k = true → CSs X ρ' body { nx := fun ρ => ∃ m', m' < m ∧ J m' ρ, ct := fun ρ => ∃ m', m' < m ∧ J m' ρ, bk := fun ρ => CSs X ρ rest W, rt := W.rt, er := W.er }) ∧ (k = false → CSs X ρ' rest W)) :
    CSs X ρ (.While c body [] pos :: rest) W := by
  refine css_of (ps_while B.ps pt_tw pss_tw) fun F O σ H E I r => ?_
  refine ⟨fun m σ H => ∃ ρi, J m ρi ∧ SOk X.K F O ρi σ H, ⟨m0, ρ, h0, I⟩, ?_⟩
  rintro m σi Hi ⟨ρi, hJ, Ii⟩
  obtain ⟨k, ρ', hc, h1, h2⟩ := hs m ρi hJ
  refine hc.2 F O σi Hi _ Ii fun H1 L => ?_
  cases k with
  | true =>
    rw [if_pos rfl]
    refine ⟨fun σ' H' => ∃ m', m' < m ∧ ∃ ρi, J m' ρi ∧ SOk X.K F O ρi σ' H', fun σ' H' ⟨m', hm, h⟩ => ⟨m', hm, h⟩, ?_⟩
    exact h1 rfl F O σi H1 _ L ⟨fun ρ σ H ⟨m', hm, h⟩ I => ⟨m', hm, ρ, h, I⟩, r.rt, r.nx, fun ρ σ H ⟨m', hm, h⟩ I => ⟨m', hm, ρ, h, I⟩, r.er⟩
  | false =>
    rw [if_neg Bool.false_ne_true]
    exact r.nx ρ' σi H1 (h2 rfl) L
end
end VL
end

section
set_option Elab.async false
set_option linter.all false
set_option maxRecDepth 100000
set_option maxHeartbeats 4000000
namespace VL
open PySem PySem.Spec PyProof.Rows L2

/-! ### what a for or a comprehension walks -/
section
variable {X : Cx} {e a b c tg : Expr} {es : List Expr} {ρ ρ1 ρ2 ρ3 ρ' : Lo} {x y d : D} {pos p p2 : Pos} {F F' : Hp} {O : Addr → Prop} {σ : L2.St} {H H' S T : Hp} {i j : Nat} {n m : Str} {ds es' : List D} {q : Addr}
theorem WK.of {J : It} {G : Hp → Prop} {Y : Nat → Hp → V → Hp → Prop} {k : Nat} (w : Walk J k G Y) (hk : k = ds.length) (hG : ∀ H, Ex S H → G H)
    (hY : ∀ (i : Nat) H v H', i < k → Ex S H → Y i H v H' → ∃ d, ds[i]? = some d ∧ ((H' = H ∧ Rep X.K T v d) ∨ ∃ p vs es, H p = none ∧ v = .ref p ∧ H' = upd H p (.tup vs) ∧ d = .tup es ∧ Reps X.K T vs es)) : WK X.K S T J ds := by
  subst hk
  exact ⟨fun i H hi h => w.goes i H hi (hG H h), fun H h => w.stops H (hG H h), fun i H v H' hi h y => hY i H v H' hi h (w.yields i H v H' hi (hG H h) y)⟩
theorem T_S (ρ1 : Lo) (H1 : Hp) : Ex (hid (UU O ρ1) H1) (VL.sup ρ1 H1) := fun a o h => by
  have := nt_hid h
  obtain ⟨n, h⟩ := of_hid h
  exact hid_of (fun z => n (.inr z)) h
theorem wk_list {vs : List V} (h1 : hid (UU O ρ1) H q = some (.lst vs)) (rs : Reps X.K (hid (UU O ρ1) H) vs ds) : WK X.K (VL.sup ρ1 H) (hid (UU O ρ1) H) (Itl X.K q) ds :=
  WK.of (walk_list (K := X.K) (a := q) (xs := vs)) rs.length (fun H' h => .of (h _ _ (T_S ρ1 H _ _ h1))) fun i H' v H'' hi h ⟨e1, e2⟩ => by
    obtain ⟨d, h3, h4⟩ := rs.get' e2
    exact ⟨d, h3, .inl ⟨e1, h4⟩⟩
theorem ci_list (ha : CE X ρ e (.lst ds) ρ1) : CI X ρ tg e ds ρ1 := ⟨_, pi_list pe_tw, ha.1, fun F O σ H R I k => ha.2 F O σ H _ I fun v H1 J r => by
  cases r with
  | lst h1 rs => exact ⟨_, rfl, ⟨_, .of (hid_ex _ _ h1)⟩, k _ H1 J (wk_list h1 rs)⟩⟩
theorem ci_tup (ha : CE X ρ e (.tup ds) ρ1) : CI X ρ tg e ds ρ1 := ⟨_, pi_tup pe_tw, ha.1, fun F O σ H R I k => ha.2 F O σ H _ I fun v H1 J r => by
  cases r with
  | @tup a vs _ h1 rs => exact ⟨_, rfl, ⟨_, hid_ex.t h1⟩, k _ H1 J (WK.of (walk_tup (K := X.K) (a := a) (xs := vs)) rs.length (fun H' h => h.t ((T_S ρ1 H1).t h1)) fun i H' v H'' hi h ⟨e1, e2⟩ => by
      obtain ⟨d, h3, h4⟩ := rs.get' e2
      exact ⟨d, h3, .inl ⟨e1, h4⟩⟩)⟩⟩
def rangeD (lo : Int) (n : Nat) : List D := (List.range n).map fun i => .int (lo + (i : Nat))
theorem rangeD_len {lo : Int} {n : Nat} : (rangeD lo n).length = n := by unfold rangeD; rw [List.length_map, List.length_range]
theorem rangeD_get {lo : Int} {n i : Nat} (h : i < n) : (rangeD lo n)[i]? = some (.int (lo + (i : Nat))) := by
  unfold rangeD
  rw [List.getElem?_map, List.getElem?_range h]
  rfl
theorem wk_range {lo : Int} {n : Nat} : WK X.K S T (Itr lo n) (rangeD lo n) :=
  WK.of (walk_range (lo := lo) (n := n)) rangeD_len.symm (fun _ _ => trivial) fun i H' v H'' hi h ⟨e1, e2⟩ => ⟨_, rangeD_get hi, .inl ⟨e1, by rw [e2]; exact .int _⟩⟩
theorem ci_range1 {j : Int} (hm : X.mg "range" = none) (ha : CE X ρ a (.int j) ρ1) (hj : -(2 ^ 62) ≤ j ∧ j < 2 ^ 62) (hg : Gl X "range" := by rfl) (hs : starEach [a] X.env = [(false, eval a X.env)] := by rfl)
    (he : starEach [a] X.env = (false, eval a X.env) :: starEach [] X.env := by rfl) : CI X ρ tg (.Call (.Name "range" p) [a] [] pos) (rangeD 0 j.toNat) ρ1 :=
  ⟨_, pi_range1 hg hm pa_tw hs, ha.1, fun F O σ H R I k => (d_cons ha d_nil he).2 F O σ H _ I fun vs H1 J r => by
    obtain ⟨v, rfl, ru⟩ := one_of r
    cases ru
    exact ⟨j, rfl, hj.1, hj.2, k _ H1 J wk_range⟩⟩
theorem ci_range2 {i j : Int} (hm : X.mg "range" = none) (ha : CE X ρ a (.int i) ρ1) (hb : CE X ρ1 b (.int j) ρ2) (hj : -(2 ^ 62) ≤ i ∧ i < 2 ^ 62 ∧ -(2 ^ 62) ≤ j ∧ j < 2 ^ 62) (hg : Gl X "range" := by rfl)
    (hs : starEach [a, b] X.env = [(false, eval a X.env), (false, eval b X.env)] := by rfl) (hs2 : starEach [b] X.env = [(false, eval b X.env)] := by rfl)
    (he : starEach [a, b] X.env = (false, eval a X.env) :: starEach [b] X.env := by rfl) (he2 : starEach [b] X.env = (false, eval b X.env) :: starEach [] X.env := by rfl) : CI X ρ tg (.Call (.Name "range" p) [a, b] [] pos) (rangeD i (j - i).toNat) ρ2 :=
  ⟨_, pi_range2 hg hm pa_tw hs hs2, hb.1.trans ha.1, fun F O σ H R I k => (d_cons ha (d_cons hb d_nil he2) he).2 F O σ H _ I fun vs H1 J r => by
    obtain ⟨v, w, rfl, ru, rw'⟩ := two_of r
    cases ru
    cases rw'
    exact ⟨i, j, rfl, hj, k _ H1 J wk_range⟩⟩
def rangeDn (lo : Int) (n : Nat) : List D := (List.range n).map fun i => .int (lo - (i : Nat))
theorem rangeDn_len {lo : Int} {n : Nat} : (rangeDn lo n).length = n := by unfold rangeDn; rw [List.length_map, List.length_range]
theorem rangeDn_get {lo : Int} {n i : Nat} (h : i < n) : (rangeDn lo n)[i]? = some (.int (lo - (i : Nat))) := by
  unfold rangeDn
  rw [List.getElem?_map, List.getElem?_range h]
  rfl
theorem three_of {K : PySem.W.Frag} {H : Hp} {z : D} {vs : List V} (r : Reps K H vs [x, y, z]) : ∃ v w u, vs = [v, w, u] ∧ Rep K H v x ∧ Rep K H w y ∧ Rep K H u z := by
  cases r with
  | cons h t =>
    obtain ⟨w, u, rfl, h2, h3⟩ := two_of t
    exact ⟨_, w, u, rfl, h, h2, h3⟩
/-- range(i, j, -1) -/
theorem ci_down {i j : Int} (hm : X.mg "range" = none) (ha : CE X ρ a (.int i) ρ1) (hb : CE X ρ1 b (.int j) ρ2) (hc : CE X ρ2 c (.int (-1)) ρ3) (hj : -(2 ^ 62) ≤ i ∧ i < 2 ^ 62 ∧ -(2 ^ 62) ≤ j ∧ j < 2 ^ 62) (hg : Gl X "range" := by rfl)
    (hs : starEach [a, b, c] X.env = (false, eval a X.env) :: starEach [b, c] X.env := by rfl) (hpl : (backTo pos (starEach [b, c] X.env)).any (·.1) = false := by rfl)
    (he2 : starEach [b, c] X.env = (false, eval b X.env) :: starEach [c] X.env := by rfl) (he3 : starEach [c] X.env = (false, eval c X.env) :: starEach [] X.env := by rfl) :
    CI X ρ tg (.Call (.Name "range" p) [a, b, c] [] pos) (rangeDn i (i - j).toNat) ρ3 :=
  ⟨_, pi_range3 hg hm pa_tw hs hpl, hc.1.trans (hb.1.trans ha.1), fun F O σ H R I k => (d_cons ha (d_cons hb (d_cons hc d_nil he3) he2) hs).2 F O σ H _ I fun vs H1 J r => by
    obtain ⟨v, w, u, rfl, ru, rw', ru3⟩ := three_of r
    cases ru
    cases rw'
    cases ru3
    refine ⟨i, j, -1, (i - j).toNat, rfl, RgC.neg hj.1 hj.2.1 hj.2.2.1 hj.2.2.2, k _ H1 J ?_⟩
    exact WK.of (walk_rangeC (lo := i) (c := -1) (n := (i - j).toNat)) rangeDn_len.symm (fun _ _ => trivial) fun t H' v H'' hi h ⟨e1, e2⟩ => ⟨_, rangeDn_get hi, .inl ⟨e1, by
      have e3 : i + ((t : Nat) : Int) * -1 = i - (t : Nat) := by omega
      rw [e2]
      show Rep _ _ (V.int (i + ((t : Nat) : Int) * -1)) _
      rw [e3]
      exact .int _⟩⟩⟩
/-- zip of two lists, of two tuples -/
def zipD (xs ys : List D) : List D := List.zipWith (fun x y => .tup [x, y]) xs ys
theorem zipD_get {xs ys : List D} {i : Nat} (h1 : xs[i]? = some x) (h2 : ys[i]? = some y) : (zipD xs ys)[i]? = some (.tup [x, y]) := by
  unfold zipD
  rw [List.getElem?_zipWith, h1, h2]
theorem ci_zipL {xs ys : List D} {elts : List Expr} {kk : Nat} {tpos : Pos} (hm : X.mg "zip" = none) (ha : CE X ρ a (.lst xs) ρ1) (hb : CE X ρ1 b (.lst ys) ρ2) (hg : Gl X "zip" := by rfl)
    (hs : starEach [a, b] X.env = (false, eval a X.env) :: starEach [b] X.env := by rfl) (hpl : (backTo pos (starEach [b] X.env)).any (·.1) = false := by rfl)
    (he2 : starEach [b] X.env = (false, eval b X.env) :: starEach [] X.env := by rfl) : CI X ρ (.Tuple elts kk tpos) (.Call (.Name "zip" p) [a, b] [] pos) (zipD xs ys) ρ2 :=
  ⟨_, RZ.pi_zipA hg hm pa_tw hs hpl, hb.1.trans ha.1, fun F O σ H R I k => (d_cons ha (d_cons hb d_nil he2) hs).2 F O σ H _ I fun vs H1 J r => by
    obtain ⟨v, w, rfl, ru, rw'⟩ := two_of r
    cases ru with
    | @lst a1 vs1 _ h1 r1 =>
      cases rw' with
      | @lst a2 vs2 _ h2 r2 =>
        refine ⟨a1, a2, vs1, vs2, rfl, .inl ⟨.of (hid_ex _ _ h1), .of (hid_ex _ _ h2), k _ H1 J ?_⟩⟩
        refine WK.of (walk_zip (K := X.K) (a := a1) (b := a2) (xs := vs1) (ys := vs2) rfl) (by unfold zipD; rw [List.length_zipWith, r1.length, r2.length]) (fun H' h => ⟨.of (h _ _ (T_S ρ2 H1 _ _ h1)), .of (h _ _ (T_S ρ2 H1 _ _ h2))⟩) fun i H' v H'' hi h y => ?_
        obtain ⟨t, u1, u2, rfl, ht, rfl, e1, e2⟩ := y
        obtain ⟨d1, q1, q2⟩ := r1.get' e1
        obtain ⟨d2, q3, q4⟩ := r2.get' e2
        exact ⟨_, zipD_get q1 q3, .inr ⟨t, _, _, ht, rfl, rfl, rfl, .cons q2 (.cons q4 .nil)⟩⟩⟩
/-- enumerate of a list -/
def enumD (xs : List D) : List D := (List.range xs.length).map fun i => .tup [.int (i : Nat), xs.getD i .non]
theorem enumD_len {xs : List D} : (enumD xs).length = xs.length := by unfold enumD; rw [List.length_map, List.length_range]
theorem enumD_get {xs : List D} {i : Nat} (h : xs[i]? = some x) : (enumD xs)[i]? = some (.tup [.int (i : Nat), x]) := by
  have hi : i < xs.length := (List.getElem?_eq_some_iff.mp h).1
  unfold enumD
  rw [List.getElem?_map, List.getElem?_range hi]
  show some (D.tup [.int (i : Nat), xs.getD i .non]) = _
  rw [List.getD_eq_getElem?_getD, h]
  rfl
theorem ci_enumL {xs : List D} {elts : List Expr} {kk : Nat} {tpos : Pos} (hm : X.mg "enumerate" = none) (ha : CE X ρ a (.lst xs) ρ1) (hg : Gl X "enumerate" := by rfl)
    (hs : starEach [a] X.env = [(false, eval a X.env)] := by rfl) (he : starEach [a] X.env = (false, eval a X.env) :: starEach [] X.env := by rfl) : CI X ρ (.Tuple elts kk tpos) (.Call (.Name "enumerate" p) [a] [] pos) (enumD xs) ρ1 :=
  ⟨_, pi_enum hg hm pa_tw hs, ha.1, fun F O σ H R I k => (d_cons ha d_nil he).2 F O σ H _ I fun vs H1 J r => by
    obtain ⟨v, rfl, ru⟩ := one_of r
    cases ru with
    | @lst a1 vs1 _ h1 r1 =>
      refine ⟨a1, vs1, rfl, .of (hid_ex _ _ h1), k _ H1 J ?_⟩
      refine WK.of (walk_enum (K := X.K) (a := a1) (xs := vs1)) (by rw [enumD_len, r1.length]) (fun H' h => .of (h _ _ (T_S ρ1 H1 _ _ h1))) fun i H' v H'' hi h y => ?_
      obtain ⟨t, u1, u2, rfl, ht, rfl, e1, e2⟩ := y
      cases e1
      obtain ⟨d2, q3, q4⟩ := r1.get' e2
      exact ⟨_, enumD_get q3, .inr ⟨t, _, _, ht, rfl, rfl, rfl, .cons (.int _) (.cons q4 .nil)⟩⟩⟩

/-! ### comprehensions -/
/-- the slots of vs empty -/
def wipeL (ρ : Lo) : List Nat → Lo
  | [] => ρ
  | v :: vs => (wipeL ρ vs).set v .un
theorem wipeL_len : ∀ {vs : List Nat}, (wipeL ρ vs).length = ρ.length
  | [] => rfl
  | v :: vs => by unfold wipeL; rw [List.length_set, wipeL_len]
theorem wipeL_get {k : Nat} {s : Sl} : ∀ {vs : List Nat}, (wipeL ρ vs)[k]? = some s → (s = .un ∧ k ∈ vs) ∨ (k ∉ vs ∧ ρ[k]? = some s)
  | [], h => .inr ⟨by simp, h⟩
  | v :: vs, h => by
    unfold wipeL at h
    by_cases e : v = k
    · subst e
      have hl : v < (wipeL ρ vs).length := by
        have := (List.getElem?_eq_some_iff.mp h).1
        rw [List.length_set] at this
        exact this
      rw [List.getElem?_set_self hl] at h
      cases h
      exact .inl ⟨rfl, List.mem_cons_self⟩
    · rw [List.getElem?_set_ne e] at h
      rcases wipeL_get h with ⟨h1, h2⟩ | ⟨h1, h2⟩
      · exact .inl ⟨h1, List.mem_cons_of_mem _ h2⟩
      · exact .inr ⟨fun z => (List.mem_cons.mp z).elim (fun z => e z.symm) h1, h2⟩
theorem wipe_get {σ : L2.St} {k : Nat} : ∀ {vs : List Nat}, k ∉ vs → (wipe σ vs)[k]? = σ[k]?
  | [], _ => rfl
  | v :: vs, h => by
    unfold wipe
    rw [List.getElem?_set_ne fun e => h (by rw [e]; exact List.mem_cons_self)]
    exact wipe_get fun z => h (List.mem_cons_of_mem _ z)
theorem wipe_in {σ : L2.St} {k : Nat} : ∀ {vs : List Nat}, k ∈ vs → k < σ.length → (wipe σ vs)[k]? = some none
  | v :: vs, h, hl => by
    unfold wipe
    by_cases e : v = k
    · subst e
      exact List.getElem?_set_self (by rw [L2.wipe_length]; exact hl)
    · rw [List.getElem?_set_ne e]
      exact wipe_in ((List.mem_cons.mp h).resolve_left fun z => e z.symm) hl
theorem wipe_eq {σ σ' : L2.St} {vs : List Nat} (hl : σ'.length = σ.length) (h : ∀ k, k ∉ vs → σ'[k]? = σ[k]?) : wipe σ' vs = wipe σ vs := by
  apply List.ext_getElem?
  intro k
  by_cases hk : k ∈ vs
  · by_cases hlt : k < σ.length
    · rw [wipe_in hk hlt, wipe_in hk (by rw [hl]; exact hlt)]
    · rw [List.getElem?_eq_none (by rw [L2.wipe_length]; omega), List.getElem?_eq_none (by rw [L2.wipe_length]; omega)]
  · rw [wipe_get hk, wipe_get hk]
    exact h k hk
/-- no own list in the slots of vs -/
def noMut (ρ : Lo) (vs : List Nat) : Prop := ∀ k p ds, k ∈ vs → ρ[k]? ≠ some (.mut p ds)
theorem SOk.wipe {vs : List Nat} (I : SOk X.K F O ρ σ H) (hn : noMut ρ vs) : SOk X.K F O (wipeL ρ vs) (wipe σ vs) H := by
  have sub : ∀ a, owns (wipeL ρ vs) a → owns ρ a := fun a ⟨es, h⟩ => by
    obtain ⟨k, hk⟩ := List.getElem?_of_mem h
    rcases wipeL_get hk with ⟨z, _⟩ | ⟨_, h2⟩
    · cases z
    · exact ⟨es, List.mem_of_getElem? h2⟩
  have ex : Ex (hid (UU O ρ) H) (hid (UU O (wipeL ρ vs)) H) := ex_hid fun a o _ n h => ⟨fun z => n (z.elim .inl fun z => .inr (sub a z)), h⟩
  refine ⟨by rw [L2.wipe_length, wipeL_len]; exact I.len, fun k d h => ?_, fun k p es h => ?_, fun k l p es es' h h' => ?_, I.fr, I.od, I.tb, I.ft⟩
  · rcases wipeL_get h with ⟨z, _⟩ | ⟨h1, h2⟩
    · cases z
    · obtain ⟨v, e1, e2⟩ := I.dat k d h2
      exact ⟨v, by rw [wipe_get h1]; exact e1, e2.mono ex⟩
  · rcases wipeL_get h with ⟨z, _⟩ | ⟨h1, h2⟩
    · cases z
    · obtain ⟨e1, e2, vs', e3, e4⟩ := I.mt k p es h2
      exact ⟨by rw [wipe_get h1]; exact e1, e2, vs', e3, e4.mono ex⟩
  · rcases wipeL_get h with ⟨z, _⟩ | ⟨_, h2⟩
    · cases z
    · rcases wipeL_get h' with ⟨z, _⟩ | ⟨_, h3⟩
      · cases z
      · exact I.nd k l p es es' h2 h3
/-- an object that is hidden may change -/
theorem SOk.under {vs ws : List V} (I : SOk X.K F O ρ σ H) (hq : O q) (hl : H q = some (.lst ws)) : SOk X.K (upd F q (.lst vs)) O ρ σ (upd H q (.lst vs)) := by
  have eh : hid (UU O ρ) (upd H q (.lst vs)) = hid (UU O ρ) H := by
    funext a
    unfold hid
    by_cases h : UU O ρ a
    · rw [if_pos (.inl h), if_pos (.inl h)]
    · have e : upd H q (.lst vs) a = H a := upd_ne fun e => h (by rw [e]; exact .inl hq)
      rw [e]
  refine ⟨I.len, fun k d h => ?_, fun k p es h => ?_, I.nd, fun a u h => ?_, fun a h => ?_, I.tb.at hl fun a ha => upd_ne ha, fun a u h => ?_⟩
  · rw [eh]; exact I.dat k d h
  · obtain ⟨e1, e2, vs, e3, e4⟩ := I.mt k p es h
    have np : p ≠ q := fun e => I.nO (a := p) ⟨es, List.mem_of_getElem? h⟩ (by rw [e]; exact hq)
    refine ⟨e1, by rw [upd_ne np]; exact e2, vs, by rw [upd_ne np]; exact e3, ?_⟩
    rw [eh]; exact e4
  · by_cases e : a = q
    · subst e
      rw [upd_same] at h ⊢
      exact h
    · rw [upd_ne e] at h ⊢
      exact I.fr a u h
  · by_cases e : a = q
    · subst e
      exact ⟨_, upd_same⟩
    · obtain ⟨u, e1⟩ := I.od a h
      exact ⟨u, by rw [upd_ne e]; exact e1⟩
  · by_cases e : a = q
    · subst e
      rw [upd_same] at h
      cases h
      exact inferInstance
    · rw [upd_ne e] at h
      exact I.ft a u h
/-- the same names with the same data; own lists may have turned -/
def sk : Sl → Sl
  | .mut p _ => .mut p []
  | s => s
def Like (ρ ρ' : Lo) : Prop := ρ'.map sk = ρ.map sk
theorem Like.refl : Like ρ ρ := rfl
theorem Like.symm (l : Like ρ ρ') : Like ρ' ρ := Eq.symm l
theorem Like.trans (l : Like ρ ρ') (k : Like ρ' ρ2) : Like ρ ρ2 := Eq.trans k l
theorem Like.len (l : Like ρ ρ') : ρ'.length = ρ.length := by
  have h := congrArg List.length l
  rw [List.length_map, List.length_map] at h
  exact h
theorem Like.at (l : Like ρ ρ') (k : Nat) : (ρ'[k]?).map sk = (ρ[k]?).map sk := by
  have h := congrArg (·[k]?) l
  simp only [List.getElem?_map] at h
  exact h
theorem Like.dat (l : Like ρ ρ') (k : Nat) (d : D) (h : ρ'[k]? = some (.dat d)) : ρ[k]? = some (.dat d) := by
  have e := l.at k
  rw [h] at e
  cases q : ρ[k]? with
  | none => rw [q] at e; cases e
  | some s =>
    rw [q] at e
    cases s with
    | un => cases e
    | dat d2 => cases e; rfl
    | «mut» p ds => cases e
theorem Like.mt (l : Like ρ ρ') (k : Nat) (p : Addr) (ds : List D) (h : ρ'[k]? = some (.mut p ds)) : ∃ ds', ρ[k]? = some (.mut p ds') := by
  have e := l.at k
  rw [h] at e
  cases q : ρ[k]? with
  | none => rw [q] at e; cases e
  | some s =>
    rw [q] at e
    cases s with
    | un => cases e
    | dat d2 => cases e
    | «mut» p ds => cases e; exact ⟨_, rfl⟩
theorem Like.tm (l : Like ρ ρ') (k : Nat) (p : Addr) (ds : List D) (h : ρ[k]? = some (.mut p ds)) : ∃ ds', ρ'[k]? = some (.mut p ds') := l.symm.mt k p ds h
theorem Like.owns (l : Like ρ ρ') : owns ρ' = owns ρ := funext fun a => propext ⟨fun ⟨es, h⟩ => by
  obtain ⟨k, hk⟩ := List.getElem?_of_mem h
  obtain ⟨es', h'⟩ := l.mt k a es hk
  exact ⟨es', List.mem_of_getElem? h'⟩, fun ⟨es, h⟩ => by
  obtain ⟨k, hk⟩ := List.getElem?_of_mem h
  obtain ⟨es', h'⟩ := l.tm k a es hk
  exact ⟨es', List.mem_of_getElem? h'⟩⟩
theorem Like.noMut {vs : List Nat} (l : Like ρ ρ') (h : noMut ρ vs) : noMut ρ' vs := fun k p ds hk e => by
  obtain ⟨es, e'⟩ := l.mt k p ds e
  exact h k p es hk e'
/-- behind a turn: the def's slots with the own lists as they stand now -/
theorem SOk.back {σ2 : L2.St} {H1 H4 : Hp} (I1 : SOk X.K F O ρ σ H1) (J : SOk X.K F' O ρ2 σ2 H4) (e : Ex (hid (UU O ρ) H1) H4) (l : Like ρ ρ') (hm : ∀ (k : Nat) p es, ρ'[k]? = some (.mut p es) → ρ2[k]? = some (.mut p es)) (hf : Ex F H4) : SOk X.K F O ρ' σ H4 := by
  have sub : ∀ a, UU O ρ' a → UU O ρ2 a := fun a z => z.elim .inl fun ⟨es, h⟩ => .inr (by
    obtain ⟨k, hk⟩ := List.getElem?_of_mem h
    exact ⟨es, List.mem_of_getElem? (hm k a es hk)⟩)
  refine ⟨by rw [l.len]; exact I1.len, fun k d h => ?_, fun k p es h => ?_, fun k k' p es es' h h' => ?_, hf, I1.od, J.tb, I1.ft⟩
  · obtain ⟨v, h1, h2⟩ := I1.dat k d (l.dat k d h)
    refine ⟨v, h1, h2.mono fun a o ha => ?_⟩
    have := nt_hid ha
    obtain ⟨n, _⟩ := of_hid ha
    refine hid_of (fun z => n ?_) (e a o ha)
    unfold UU at z ⊢
    rw [← l.owns]
    exact z
  · obtain ⟨es0, h0⟩ := l.mt k p es h
    obtain ⟨e1, e2, _⟩ := I1.mt k p es0 h0
    obtain ⟨_, _, vs, e3, e4⟩ := J.mt k p es (hm k p es h)
    exact ⟨e1, e2, vs, e3, e4.mono (ex_hid fun a o _ n ha => ⟨fun z => n (sub a z), ha⟩)⟩
  · obtain ⟨es0, h0⟩ := l.mt k p es h
    obtain ⟨es1, h1⟩ := l.mt k' p es' h'
    exact I1.nd k k' p es0 es1 h0 h1
end
end VL
end

section
set_option Elab.async false
set_option linter.all false
set_option maxRecDepth 100000
set_option maxHeartbeats 4000000
namespace VL
open PySem PySem.Spec PyProof.Rows L2
section
variable {X : Cx} {e a b c tg elt iter : Expr} {es ifs : List Expr} {ρ ρ1 ρ2 ρ3 ρ' : Lo} {x y d : D} {pos p p2 : Pos} {F F' : Hp} {O : Addr → Prop} {σ : L2.St} {H H' S T : Hp} {i j : Nat} {n m : Str} {ds es' : List D} {q : Addr} {scope : Scope} {own : List (Str × Nat)}
/-- an expression of a comprehension's block, in any such block -/
def twB (X : Cx) (scope : Scope) (e : Expr) : TE := fun σ H Q => ∀ (s : Shared) (H' : Hp) (C : Addr) (cl : List (Str × Addr)) (fp : List Addr), tw (X.blk s H' scope (compEnvC scope cl C X.env) fp) e σ H Q
def twTB (X : Cx) (scope : Scope) (e : Expr) : TT := fun σ H Q => ∀ (s : Shared) (H' : Hp) (C : Addr) (cl : List (Str × Addr)) (fp : List Addr), twT (X.blk s H' scope (compEnvC scope cl C X.env) fp) e σ H Q
theorem pe_twB {s : Shared} {H' : Hp} {C : Addr} {cl : List (Str × Addr)} {fp : List Addr} : PE (X.blk s H' scope (compEnvC scope cl C X.env) fp) e (twB X scope e) := ⟨fun pins s1 _ _ _ I h => h s H' C cl fp pins s1 I⟩
theorem pt_twB {s : Shared} {H' : Hp} {C : Addr} {cl : List (Str × Addr)} {fp : List Addr} : PT (X.blk s H' scope (compEnvC scope cl C X.env) fp) e (twTB X scope e) := ⟨fun pins s1 _ _ _ I h => h s H' C cl fp pins s1 I⟩
/-- in every block of this scope -/
abbrev InB (X : Cx) (scope : Scope) (P : Cx → Prop) : Prop := ∀ (s : Shared) (H' : Hp) (C : Addr) (cl : List (Str × Addr)) (fp : List Addr), P (X.blk s H' scope (compEnvC scope cl C X.env) fp)
theorem ev_twB (h : InB X scope fun Y => CE Y ρ e d ρ1) (ho : owns ρ1 = owns ρ) : EV X.K (twB X scope e) ρ d ρ1 := ⟨ho, fun F O σ H Q I q s H' C cl fp => (h s H' C cl fp).2 F O σ H Q I q⟩
theorem et_twB {k : Bool} (h : InB X scope fun Y => CT Y ρ e k ρ1) (ho : owns ρ1 = owns ρ) : ET X.K (twTB X scope e) ρ k ρ1 := ⟨ho, fun F O σ H Q I q s H' C cl fp => (h s H' C cl fp).2 F O σ H Q I q⟩
def delH (H : Hp) (q : Addr) : Hp := fun b => if b = q then none else H b
theorem delH_same : delH H q q = none := if_pos rfl
theorem delH_ne {b : Addr} (h : b ≠ q) : delH H q b = H b := if_neg h
theorem upd_delH {o : HO} (h : H q = some o) : upd (delH H q) q o = H := by
  funext b
  by_cases e : b = q
  · subst e; rw [upd_same, h]
  · rw [upd_ne e, delH_ne e]
def orA (O : Addr → Prop) (q : Addr) : Addr → Prop := fun a => O a ∨ a = q
/-- a new hidden object -/
theorem SOk.orNew {o : HO} [t : NT o] (I : SOk X.K F O ρ σ H) (hq : H q = none) : SOk X.K (upd F q o) (orA O q) ρ σ (upd H q o) := by
  have nu := I.nU hq
  have ex : Ex (hid (UU O ρ) H) (hid (UU (orA O q) ρ) (upd H q o)) := ex_hid fun a u _ n h => by
    have nq : a ≠ q := ne_of_none h hq
    exact ⟨fun z => z.elim (fun z => z.elim (fun z => n (.inl z)) nq) fun z => n (.inr z), by rw [upd_ne nq]; exact h⟩
  refine ⟨I.len, fun k d h => ?_, fun k p es h => ?_, I.nd, fun a u h => ?_, fun a h => ?_, I.tb.ex fun a u e => by rw [upd_ne (ne_of_none e hq)]; exact e, fun a u h => ?_⟩
  · obtain ⟨v, e1, e2⟩ := I.dat k d h
    exact ⟨v, e1, e2.mono ex⟩
  · obtain ⟨e1, e2, vs, e3, e4⟩ := I.mt k p es h
    have np : p ≠ q := ne_of_none e3 hq
    exact ⟨e1, by rw [upd_ne np]; exact e2, vs, by rw [upd_ne np]; exact e3, e4.mono ex⟩
  · by_cases e : a = q
    · subst e
      rw [upd_same] at h ⊢
      exact h
    · rw [upd_ne e] at h ⊢
      exact I.fr a u h
  · rcases h with h | h
    · obtain ⟨u, e1⟩ := I.od a h
      by_cases e : a = q
      · subst e; exact ⟨o, upd_same⟩
      · exact ⟨u, by rw [upd_ne e]; exact e1⟩
    · subst h; exact ⟨o, upd_same⟩
  · by_cases e : a = q
    · subst e
      rw [upd_same] at h
      cases h
      exact t
    · rw [upd_ne e] at h
      exact I.ft a u h
/-- .. taken away -/
theorem SOk.orDel {ws : List V} (I : SOk X.K (upd F q (.lst ws)) (orA O q) ρ σ H) (hF : F q = none) (od : ∀ a, O a → ∃ o, F a = some o) : SOk X.K F O ρ σ (delH H q) ∧ ∀ {vs : List V} {ds : List D}, Reps X.K (hid (UU (orA O q) ρ) H) vs ds → Reps X.K (hid (UU O ρ) (delH H q)) vs ds := by
  have ex : Ex (hid (UU (orA O q) ρ) H) (hid (UU O ρ) (delH H q)) := ex_hid fun a u _ n h => by
    have nq : a ≠ q := fun e => n (.inl (.inr e))
    exact ⟨fun z => n (z.elim (fun z => .inl (.inl z)) .inr), by rw [delH_ne nq]; exact h⟩
  refine ⟨⟨I.len, fun k d h => ?_, fun k p es h => ?_, I.nd, fun a u h => ?_, od, I.tb.at (I.fr q _ upd_same) fun a ha => delH_ne ha, fun a u h => I.ft a u (by rw [upd_ne (ne_of_none h hF)]; exact h)⟩, fun r => r.mono ex⟩
  · obtain ⟨v, e1, e2⟩ := I.dat k d h
    exact ⟨v, e1, e2.mono ex⟩
  · obtain ⟨e1, e2, vs, e3, e4⟩ := I.mt k p es h
    have np : p ≠ q := fun e => by
      rw [e, upd_same] at e2
      cases e2
    exact ⟨e1, by rw [upd_ne np] at e2; exact e2, vs, by rw [delH_ne np]; exact e3, e4.mono ex⟩
  · have na : a ≠ q := ne_of_none h hF
    rw [delH_ne na]
    exact I.fr a u (by rw [upd_ne na]; exact h)
theorem Rep.orO {v : V} (r : Rep X.K (hid (UU (orA O q) ρ) H) v d) : Rep X.K (hid (UU O ρ) H) v d := r.mono (ex_hid fun a o _ n h => ⟨fun z => n (z.elim (fun z => .inl (.inl z)) .inr), h⟩)
theorem upd_upd2 {o u : HO} : upd (upd H q o) q u = upd H q u := upd_upd
/-- [elt for tg in iter if ..], by its reading -/
theorem en_lcR {T : Tg} {tt : TT} {te : TE} {wi : TI} {vs : List Nat} (how : owns ρ1 = owns ρ)
    (hw : ∀ F O σ H (R : It → Hp → Prop), SOk X.K F O ρ σ H → (∀ J H1, SOk X.K F O ρ1 σ H1 → WK X.K (VL.sup ρ1 H1) (hid (UU O ρ1) H1) J ds → R J H1) → wi σ H R) (J : Nat → Lo → List D → Prop)
    (hT : ∀ k ∈ T.slots, k ∈ vs) (hn : noMut ρ1 vs) (h0 : J 0 ρ1 [])
    (hs : ∀ (i : Nat) d ρi acc, ds[i]? = some d → Like ρ1 ρi → J i ρi acc → ∃ ρ2 k ρt, Bind T d (wipeL ρi vs) ρ2 ∧ ET X.K tt ρ2 k ρt ∧
      (k = true → ∃ r ρ3 ρ4, EV X.K te ρt r ρ3 ∧ Like ρ1 ρ4 ∧ (∀ (k : Nat) p es, ρ4[k]? = some (.mut p es) → ρ3[k]? = some (.mut p es)) ∧ acc.length < sizeLine ∧ J (i + 1) ρ4 (acc ++ [r])) ∧
      (k = false → ∃ ρ4, Like ρ1 ρ4 ∧ (∀ (k : Nat) p es, ρ4[k]? = some (.mut p es) → ρt[k]? = some (.mut p es)) ∧ J (i + 1) ρ4 acc))
    (hd : ∀ ρn acc, Like ρ1 ρn → J ds.length ρn acc → ρn = ρ' ∧ acc = es') (hl' : owns ρ' = owns ρ1) : EN X.K (tLc wi (gOf X.K T) tt te vs) ρ es' ρ' := by
  refine ⟨hl'.trans how, fun F O σ H Q I q => hw F O σ H _ I fun Jt H1 I1 wk D hD => ?_⟩
  have hS : Ex F (VL.sup ρ1 H1) := I1.le_sup
  have hSD : VL.sup ρ1 H1 D = none := by
    cases z : VL.sup ρ1 H1 D with
    | none => rfl
    | some o =>
      have := hid_ex D o z
      rw [hD] at this
      cases this
  have hT2 : ∀ accV a o, hid (UU O ρ1) H1 a = some o → (upd (VL.sup ρ1 H1) D (.lst accV)) a = some o ∧ ¬ orA O D a := fun accV a o h => by
    have := nt_hid h
    have na : a ≠ D := ne_of_none (hid_ex a o h) hD
    obtain ⟨n, h'⟩ := of_hid h
    exact ⟨by rw [upd_ne na]; exact T_S ρ1 H1 a o h, fun z => z.elim (fun z => n (.inl z)) na⟩
  have exS : ∀ accV, Ex (VL.sup ρ1 H1) (upd (VL.sup ρ1 H1) D (.lst accV)) := fun accV a o h => by rw [upd_ne (ne_of_none h hSD)]; exact h
  -- the words of the walk
  let Pv : Nat → Hp → Prop := fun i H => ∃ ρi acc accV, Like ρ1 ρi ∧ J i ρi acc ∧ SOk X.K (upd (VL.sup ρ1 H1) D (.lst accV)) (orA O D) ρi σ H ∧ Reps X.K (hid (UU (orA O D) ρi) H) accV acc
  have I1D : SOk X.K (upd (VL.sup ρ1 H1) D (.lst [])) (orA O D) ρ1 σ (upd H1 D (.lst [])) := I1.sup.orNew hD
  refine ⟨fun i m H => m = ds.length - i ∧ i ≤ ds.length ∧ Pv i H, ⟨ds.length, by simp, Nat.zero_le _, ρ1, [], [], Like.refl, h0, I1D, .nil⟩, ?_⟩
  rintro i m Hi ⟨rfl, hle, ρi, acc, accV, lk, hJ, Ii, racc⟩
  have frS : Ex (VL.sup ρ1 H1) Hi := (exS accV).trans Ii.fr
  by_cases hlt : i < ds.length
  · refine .inr ⟨wk.go i Hi hlt frS, Pv (i + 1), fun H' h => ⟨ds.length - (i + 1), by omega, rfl, hlt, h⟩, fun v H' yy => ?_⟩
    -- what is walked
    obtain ⟨d, hd', hyld⟩ := wk.yld i Hi v H' hlt frS yy
    have subT : Ex (hid (UU O ρ1) H1) (hid (UU (orA O D) ρi) Hi) := fun a o h => by
      have := nt_hid h
      obtain ⟨h1, h2⟩ := hT2 accV a o h
      exact hid_of (fun z => z.elim h2 fun z => by rw [Ii.own z] at h1; cases h1) (Ii.fr a o h1)
    have got : SOk X.K (upd (VL.sup ρ1 H1) D (.lst accV)) (orA O D) ρi σ H' ∧ Rep X.K (hid (UU (orA O D) ρi) H') v d ∧ Ex (hid (UU (orA O D) ρi) Hi) (hid (UU (orA O D) ρi) H') := by
      rcases hyld with ⟨rfl, r⟩ | ⟨p, ws, es, hp, rfl, rfl, rfl, r⟩
      · exact ⟨Ii, r.mono subT, Ex.refl _⟩
      · exact ⟨Ii.new hp, .tup (.of (Ii.newHid hp)) ((r.mono subT).mono (ex_new hp)), ex_new hp⟩
    obtain ⟨I2, rv, exY⟩ := got
    obtain ⟨ρ2, k, ρt, hb, htt, hyes, hno⟩ := hs i d ρi acc hd' lk hJ
    have nm := lk.noMut hn
    have Iw : SOk X.K (upd (VL.sup ρ1 H1) D (.lst accV)) (orA O D) (wipeL ρi vs) (wipe σ vs) H' := I2.wipe nm
    have rw' : Rep X.K (hid (UU (orA O D) (wipeL ρi vs)) H') v d := rv.mono (ex_hid fun a o _ n h => ⟨fun z => n (z.elim .inl fun ⟨es, z⟩ => .inr (by
      obtain ⟨kk, hk⟩ := List.getElem?_of_mem z
      rcases wipeL_get hk with ⟨z, _⟩ | ⟨_, h2⟩
      · cases z
      · exact ⟨es, List.mem_of_getElem? h2⟩)), h⟩)
    -- back to the def's slots: the accumulated list is seen as before
    have seen : ∀ {ρ4 ρ5 : Lo} {σ5 : L2.St} {H5 : Hp}, Like ρ1 ρ4 → (∀ (k : Nat) p es, ρ4[k]? = some (.mut p es) → ρ5[k]? = some (.mut p es)) → SOk X.K (VL.sup (wipeL ρi vs) H') (orA O D) ρ5 σ5 H5 →
        SOk X.K (upd (VL.sup ρ1 H1) D (.lst accV)) (orA O D) ρ4 σ H5 ∧ Reps X.K (hid (UU (orA O D) ρ4) H5) accV acc := fun {ρ4 ρ5 σ5 H5} l4 hm J5 => by
      have ow : owns ρ4 = owns ρi := l4.owns.trans lk.owns.symm
      have ex5 : Ex (hid (UU (orA O D) ρi) H') H5 := fun a o h => by
        have := nt_hid h
        obtain ⟨n, h'⟩ := of_hid h
        refine J5.fr a o (hid_of (fun ⟨es, z⟩ => n (.inr ?_)) h')
        obtain ⟨kk, hk⟩ := List.getElem?_of_mem z
        rcases wipeL_get hk with ⟨z, _⟩ | ⟨_, h2⟩
        · cases z
        · exact ⟨es, List.mem_of_getElem? h2⟩
      have hf5 : Ex (upd (VL.sup ρ1 H1) D (.lst accV)) H5 := fun a o h => have := Iw.ft a o h; J5.fr a o (hid_of (fun z => by rw [Iw.own z] at h; cases h) (Iw.fr a o h))
      have lk4 : Like ρi ρ4 := lk.symm.trans l4
      have J6 := SOk.back I2 J5 ex5 lk4 hm hf5
      refine ⟨J6, (racc.mono exY).mono fun a o h => ?_⟩
      have := nt_hid h
      obtain ⟨n, _⟩ := of_hid h
      refine hid_of (fun z => n ?_) (ex5 a o h)
      unfold UU at z ⊢
      rw [← ow]
      exact z
    have app : ∀ {ρ3 ρ4 : Lo} {r : VL.D} {vy : V} {H5 : Hp}, Like ρ1 ρ4 → (∀ (k : Nat) p es, ρ4[k]? = some (.mut p es) → ρ3[k]? = some (.mut p es)) → ∀ {σ5 : L2.St}, SOk X.K (VL.sup (wipeL ρi vs) H') (orA O D) ρ3 σ5 H5 → Rep X.K (hid (UU (orA O D) ρ3) H5) vy r → acc.length < sizeLine → J (i + 1) ρ4 (acc ++ [r]) →
        ∃ accW, H5 D = some (.lst accW) ∧ accW.length < sizeLine ∧ Pv (i + 1) (upd H5 D (.lst (accW ++ [vy]))) := fun {ρ3 ρ4 r vy H5} l4 hm {σ5} J5 ry hz jj => by
      obtain ⟨K1, K2⟩ := seen l4 hm J5
      refine ⟨accV, K1.fr D _ upd_same, by rw [racc.length]; exact hz, ρ4, acc ++ [r], accV ++ [vy], l4, jj, ?_, ?_⟩
      · have z := K1.under (q := D) (vs := accV ++ [vy]) (.inr rfl) (K1.fr D _ upd_same)
        rw [upd_upd] at z
        exact z
      · have eh : Ex (hid (UU (orA O D) ρ4) H5) (hid (UU (orA O D) ρ4) (upd H5 D (.lst (accV ++ [vy])))) := ex_hid fun a o _ n h => ⟨n, by rw [upd_ne (fun e => n (.inl (.inr e)))]; exact h⟩
        have sub : ∀ a, UU (orA O D) ρ4 a → UU (orA O D) ρ3 a := fun a z => z.elim .inl fun ⟨es, h⟩ => .inr (by
          obtain ⟨kk, hk⟩ := List.getElem?_of_mem h
          exact ⟨es, List.mem_of_getElem? (hm kk a es hk)⟩)
        exact (K2.mono eh).append (.one ((ry.mono (ex_hid fun a o _ n h => ⟨fun z => n (sub a z), h⟩)).mono eh))
    refine hb.run Iw.sup rw' fun σ2 L hk _ => ⟨wipe_eq (L.len.trans ?_) fun kk hkk => (hk kk fun z => hkk (hT kk z)).trans (wipe_get hkk), ?_⟩
    · rw [hb.len2, wipeL_len]
      exact I2.len.symm
    · refine htt.2 (VL.sup (wipeL ρi vs) H') (orA O D) σ2 H' _ L fun H3 L3 => ?_
      cases k with
      | true =>
        rw [if_pos rfl]
        obtain ⟨r, ρ3, ρ4, hev, l4, hm, hz, jj⟩ := hyes rfl
        exact hev.2 (VL.sup (wipeL ρi vs) H') (orA O D) σ2 H3 _ L3 fun vy H5 L5 ry => app l4 hm L5 ry hz jj
      | false =>
        rw [if_neg Bool.false_ne_true]
        obtain ⟨ρ4, l4, hm, jj⟩ := hno rfl
        obtain ⟨K1, K2⟩ := seen l4 hm L3
        exact ⟨ρ4, acc, accV, l4, jj, K1, K2⟩
  · have e : i = ds.length := by omega
    subst e
    refine .inl ⟨wk.stop Hi frS, ?_⟩
    obtain ⟨rfl, rfl⟩ := hd ρi acc lk hJ
    obtain ⟨K1, K2⟩ := Ii.orDel hSD I1.sup.od
    have hHD : Hi D = some (.lst accV) := Ii.fr D _ upd_same
    have qq := q D accV (delH Hi D) (K1.weak hS I1.od) delH_same (K2 racc)
    rw [upd_delH hHD] at qq
    exact qq
/-- a comprehension: as a value, stored under a name -/
structure CL (X : Cx) (ρ : Lo) (elt tg iter : Expr) (ifs : List Expr) (scope : Scope) (es : List D) (ρ' : Lo) : Prop where
  ex : ∃ tl : TE, (∀ pos, PE X (.ListComp elt [⟨tg, iter, ifs, 0⟩] scope pos) tl) ∧
    (∀ (i : Nat) (y : Str) (py pos spos : Pos), X.N[i]? = some y → X.env.scope.names.lookup y = some .local → swapsWith (.ListComp elt [⟨tg, iter, ifs, 0⟩] scope pos) (some (.Name y py)) spos.line X.env = pure true →
      PS X (.Assign [.Name y py] (.ListComp elt [⟨tg, iter, ifs, 0⟩] scope pos) spos) (tAsg tl (gName i))) ∧ EN X.K tl ρ es ρ'
theorem CL.cn (h : CL X ρ elt tg iter ifs scope es' ρ') : CN X ρ (.ListComp elt [⟨tg, iter, ifs, 0⟩] scope pos) es' ρ' := let ⟨_, h1, _, h3⟩ := h.ex; .of (h1 pos) h3
theorem CL.eq {es2 : List D} (h : CL X ρ elt tg iter ifs scope es' ρ') (e : es' = es2) : CL X ρ elt tg iter ifs scope es2 ρ' := e ▸ h
theorem l_lcG {T : Tg} {tt : TT} (J : Nat → Lo → List D → Prop) (B1 : X.calm = true) (B2 : X.N.Nodup) (hi : CI X ρ tg iter ds ρ1) (ok : BlkOk X.N X.env.scope scope own)
    (hg : InB X scope fun Y => PG Y tg (gOf X.K T)) (ht : InB X scope fun Y => PTs Y ifs tt) (hT : ∀ k ∈ T.slots, k ∈ own.map (·.2)) (hn : noMut ρ1 (own.map (·.2))) (h0 : J 0 ρ1 [])
    (hs : ∀ (i : Nat) d ρi acc, ds[i]? = some d → Like ρ1 ρi → J i ρi acc → ∃ ρ2 k ρt, Bind T d (wipeL ρi (own.map (·.2))) ρ2 ∧ ET X.K tt ρ2 k ρt ∧
      (k = true → ∃ r ρ3 ρ4, EV X.K (twB X scope elt) ρt r ρ3 ∧ Like ρ1 ρ4 ∧ (∀ (k : Nat) p es, ρ4[k]? = some (.mut p es) → ρ3[k]? = some (.mut p es)) ∧ acc.length < sizeLine ∧ J (i + 1) ρ4 (acc ++ [r])) ∧
      (k = false → ∃ ρ4, Like ρ1 ρ4 ∧ (∀ (k : Nat) p es, ρ4[k]? = some (.mut p es) → ρt[k]? = some (.mut p es)) ∧ J (i + 1) ρ4 acc))
    (hd : ∀ ρn acc, Like ρ1 ρn → J ds.length ρn acc → ρn = ρ' ∧ acc = es') (hl' : owns ρ' = owns ρ1) (hfs : ∀ x, foldedSetIterable iter X.env x = pure x := by intro _; rfl) :
    CL X ρ elt tg iter ifs scope es' ρ' := by
  obtain ⟨wi, hpi, how, hw⟩ := hi.ex
  exact ⟨_, fun pos => pe_lc B1 B2 hpi ok hg ht (fun s H C cl fp => pe_twB) hfs, fun i y py pos spos hy hyl hsw => ps_setLc B1 B2 hy hyl hsw hpi ok hg ht (fun s H C cl fp => pe_twB) hfs, en_lcR how hw J hT hn h0 hs hd hl'⟩
end
end VL
end

section
set_option Elab.async false
set_option linter.all false
set_option maxRecDepth 100000
set_option maxHeartbeats 4000000
namespace VL
open PySem PySem.Spec PyProof.Rows L2
section
variable {X : Cx} {e a b c tg elt iter : Expr} {es ifs : List Expr} {ρ ρ1 ρ2 ρ3 ρ' : Lo} {x y z d : D} {pos p p2 : Pos} {F F' : Hp} {O : Addr → Prop} {σ : L2.St} {H H' S T : Hp} {i j : Nat} {n m : Str} {ds es' : List D} {q : Addr} {scope : Scope} {own : List (Str × Nat)} {K : PySem.W.Frag} {W : WE} {rest : List Stmt}
theorem owns_setM (hi : ρ[i]? = some (.mut q ds)) : owns (ρ.set i (.mut q es')) = owns ρ := funext fun a => propext ⟨fun ⟨u, h⟩ => by
  rcases List.mem_or_eq_of_mem_set h with h | h
  · exact ⟨u, h⟩
  · cases h
    exact ⟨ds, List.mem_of_getElem? hi⟩, fun ⟨u, h⟩ => by
  obtain ⟨k, hk⟩ := List.getElem?_of_mem h
  have hl : i < ρ.length := (List.getElem?_eq_some_iff.mp hi).1
  by_cases e : i = k
  · subst e
    rw [hi] at hk
    cases hk
    exact ⟨es', List.mem_of_getElem? (i := i) (List.getElem?_set_self hl)⟩
  · exact ⟨u, List.mem_of_getElem? (i := k) (by rw [List.getElem?_set_ne e]; exact hk)⟩⟩
/-- the own list of slot i turned -/
theorem SOk.mutUpd {vs : List V} (I : SOk K F O ρ σ H) (hi : ρ[i]? = some (.mut q ds)) (r : Reps K (hid (UU O ρ) H) vs es') : SOk K F O (ρ.set i (.mut q es')) σ (upd H q (.lst vs)) := by
  have hl : i < ρ.length := (List.getElem?_eq_some_iff.mp hi).1
  have ho : owns ρ q := ⟨ds, List.mem_of_getElem? hi⟩
  have eu : UU O (ρ.set i (.mut q es')) = UU O ρ := funext fun a => by unfold UU; rw [owns_setM hi]
  have eh : hid (UU O (ρ.set i (.mut q es'))) (upd H q (.lst vs)) = hid (UU O ρ) H := by
    rw [eu]
    funext a
    unfold hid
    by_cases h : UU O ρ a
    · rw [if_pos (.inl h), if_pos (.inl h)]
    · have e : upd H q (.lst vs) a = H a := upd_ne fun e => h (by rw [e]; exact .inr ho)
      rw [e]
  obtain ⟨_, _, vs0, hq0, _⟩ := I.mt i q ds hi
  refine ⟨by rw [List.length_set]; exact I.len, fun k d h => ?_, fun k p es h => ?_, fun k l p es es1 h h' => ?_, fun a o h => ?_, I.od, I.tb.at hq0 fun a ha => upd_ne ha, I.ft⟩
  · rw [eh]
    by_cases e : i = k
    · subst e
      rw [List.getElem?_set_self hl] at h
      cases h
    · rw [List.getElem?_set_ne e] at h
      exact I.dat k d h
  · rw [eh]
    by_cases e : i = k
    · subst e
      rw [List.getElem?_set_self hl] at h
      cases h
      obtain ⟨h1, h2, _⟩ := I.mt i q ds hi
      exact ⟨h1, h2, vs, upd_same, r⟩
    · rw [List.getElem?_set_ne e] at h
      obtain ⟨h1, h2, ws, h3, h4⟩ := I.mt k p es h
      have np : p ≠ q := fun z => by
        subst z
        exact e (I.nd i k p ds es hi h)
      exact ⟨h1, h2, ws, by rw [upd_ne np]; exact h3, h4⟩
  · have back : ∀ {k : Nat} {p : Addr} {es : List D}, (ρ.set i (.mut q es'))[k]? = some (.mut p es) → ∃ es0, ρ[k]? = some (.mut p es0) := fun {k p es} h => by
      by_cases e : i = k
      · subst e
        rw [List.getElem?_set_self hl] at h
        cases h
        exact ⟨ds, hi⟩
      · rw [List.getElem?_set_ne e] at h
        exact ⟨es, h⟩
    obtain ⟨e0, h0⟩ := back h
    obtain ⟨e1, h1⟩ := back h'
    exact I.nd k l p e0 e1 h0 h1
  · have na : a ≠ q := fun z => by
      subst z
      rw [I.own ho] at h
      cases h
    rw [upd_ne na]
    exact I.fr a o h

/-! found.append(e); found[i] = e; found[i], x = .., .. -/
theorem css_append (i : Nat) {apos cpos xp : Pos} (he : CE X ρ e d ρ1) (hi : ρ[i]? = some (.mut q ds)) (hi1 : ρ1[i]? = some (.mut q es')) (hz : es'.length < sizeLine) (k : CSs X (ρ1.set i (.mut q (es' ++ [d]))) rest W) (hN : X.N[i]? = some n := by rfl) (hv : Vis X.env.scope n := by first | exact Or.inl rfl | exact Or.inr (Or.inl rfl) | exact Or.inr (Or.inr rfl))
    (h1 : (n == ("__debug__" : Str)) = false := by decide) (h2 : (n == ("__classdict__" : Str)) = false := by decide)
    (hbase : attributeBase (.Name n xp) "append" X.env (eval (.Name n xp) X.env) = eval (.Name n xp) X.env := by rfl)
    (hfew : ((backTo cpos (starEach (e :: []) X.env)).all (fun x => !x.1) && (backToKw cpos (keywordEach [] X.env)).all (fun x => x.1.isSome) && decide ((e :: []).length + ([] : List Keyword).length + (if ([] : List Keyword).isEmpty then 0 else 1) < 30)) = true := by rfl)
    (hline : (apos.endLine == cpos.line) = true := by rfl) (hs : starEach (e :: []) X.env = (false, eval e X.env) :: starEach [] X.env := by rfl) (hplain : (backTo cpos (starEach [] X.env)).any (·.1) = false := by rfl)
    (hsw : swapsWith (.Call (.Attribute (.Name n xp) "append" apos) [e] [] cpos) none pos.line X.env = pure false := by rfl) :
    CSs X ρ (.Expr (.Call (.Attribute (.Name n xp) "append" apos) [e] [] cpos) pos :: rest) W :=
  css_of (ps_expr (pe_bm PySem.F.plainAttrs_list PySem.F.slot_list_append PySem.F.type_list_append mt_append (pe_var hN hv h1 h2) pa_tw hbase hfew hline hs hplain) hsw) fun F O σ H E I r => by
    obtain ⟨e1, _, vs, e2, _⟩ := I.mt i q ds hi
    refine ⟨.ref q, e1, .inl ⟨rfl, vs, .of e2⟩, (d_cons he d_nil hs).2 F O σ H _ I fun ws H1 J rw' => ?_⟩
    obtain ⟨v, rfl, rv⟩ := one_of rw'
    obtain ⟨_, _, vs1, e3, r3⟩ := J.mt i q es' hi1
    refine ⟨q, vs1, v, rfl, rfl, e3, by rw [r3.length]; exact hz, r.nx _ _ _ k ?_⟩
    exact J.mutUpd hi1 (r3.append (.one rv))
/-- found[k] = e -/
theorem css_setIx (i : Nat) {xp : Pos} {ix : Expr} {k : Int} {j : Nat} (B : Bdn X) (he : CE X ρ e d ρ1) (hx : CE X ρ1 ix (.int k) ρ1) (hi1 : ρ1[i]? = some (.mut q es')) (hj : ixN es'.length k = some j) (kk : CSs X (ρ1.set i (.mut q (es'.set j d))) rest W) (hN : X.N[i]? = some n := by rfl) (hv : Vis X.env.scope n := by first | exact Or.inl rfl | exact Or.inr (Or.inl rfl) | exact Or.inr (Or.inr rfl))
    (h1 : (n == ("__debug__" : Str)) = false := by decide) (h2 : (n == ("__classdict__" : Str)) = false := by decide)
    (ha : ∀ v, assign (.Subscript (.Name n xp) ix p2) X.env v = (do
      let ov ← holding [v] (eval (.Name n xp) X.env)
      let iv ← holding [v, ov] (eval ix X.env)
      standAt p2
      holding [v, ov, iv] (setItem ov iv v)
      release [v, ov, iv] []) := by intro _; rfl)
    (hs : swapsWithSole [.Subscript (.Name n xp) ix p2] e pos.line X.env = pure false := by rfl) (hw : swappedStores [.Subscript (.Name n xp) ix p2] e X.env = pure none := by rfl)
    (hh : (assignEach [.Subscript (.Name n xp) ix p2] X.env).map (·.2) = [assign (.Subscript (.Name n xp) ix p2) X.env] := by rfl) :
    CSs X ρ (.Assign [.Subscript (.Name n xp) ix p2] e pos :: rest) W :=
  css_of (ps_asg pe_tw (pg_sub (pe_var hN hv h1 h2) pe_tw set_list ha) hs hw hh) fun F O σ H E I r => he.2 F O σ H _ I fun v H1 J rv => by
    obtain ⟨e1, _, _⟩ := J.mt i q es' hi1
    refine ⟨.ref q, e1, hx.2 _ O σ H1 _ J.sup fun w H2 L rw' => ?_⟩
    cases rw'
    have L' := L.weak J.le_sup J.od
    obtain ⟨_, _, vs1, e3, r3⟩ := L'.mt i q es' hi1
    refine ⟨q, vs1, k, j, rfl, rfl, e3, by rw [r3.length]; exact hj, r.nx _ _ _ kk ?_⟩
    exact L'.mutUpd hi1 (r3.set j (SOk.keep rfl L rv))
/-- found[k], x = e (a pair) -/
theorem css_setIxNm (i l : Nat) {xp yp : Pos} {ix : Expr} {k : Int} {j : Nat} {kt} {pt : Pos} (B : Bd X) (he : CE X ρ e (.tup [x, y]) ρ1) (hx : CE X ρ1 ix (.int k) ρ1) (hi1 : ρ1[i]? = some (.mut q es')) (hj : ixN es'.length k = some j) (kk : CSs X ((ρ1.set i (.mut q (es'.set j x))).set l (.dat y)) rest W)
    (hN : X.N[i]? = some n := by rfl) (hv : Vis X.env.scope n := by first | exact Or.inl rfl | exact Or.inr (Or.inl rfl) | exact Or.inr (Or.inr rfl)) (hl : X.N[l]? = some m := by rfl) (hxl : Loc X.env.scope m := by first | exact Or.inl rfl | exact Or.inr rfl)
    (hf : X.fn m = true ∨ X.env.scope.names.lookup m = some .local := by first | exact .inl rfl | exact .inr rfl)
    (h1 : (n == ("__debug__" : Str)) = false := by decide) (h2 : (n == ("__classdict__" : Str)) = false := by decide)
    (ha : ∀ v, assign (.Subscript (.Name n xp) ix p2) X.env v = (do
      let ov ← holding [v] (eval (.Name n xp) X.env)
      let iv ← holding [v, ov] (eval ix X.env)
      standAt p2
      holding [v, ov, iv] (setItem ov iv v)
      release [v, ov, iv] []) := by intro _; rfl)
    (hs : swapsWithSole [.Tuple [.Subscript (.Name n xp) ix p2, .Name m yp] kt pt] e pos.line X.env = pure false := by rfl) (hw : swappedStores [.Tuple [.Subscript (.Name n xp) ix p2, .Name m yp] kt pt] e X.env = pure none := by rfl)
    (hh : (assignEach [.Tuple [.Subscript (.Name n xp) ix p2, .Name m yp] kt pt] X.env).map (·.2) = [assign (.Tuple [.Subscript (.Name n xp) ix p2, .Name m yp] kt pt) X.env] := by rfl)
    (g1 : (assignEach [.Subscript (.Name n xp) ix p2, .Name m yp] X.env).map (·.2) = assign (.Subscript (.Name n xp) ix p2) X.env :: (assignEach [.Name m yp] X.env).map (·.2) := by rfl)
    (g2 : (assignEach [.Name m yp] X.env).map (·.2) = assign (.Name m yp) X.env :: (assignEach [] X.env).map (·.2) := by rfl)
    (g3 : (assignEach [.Subscript (.Name n xp) ix p2, .Name m yp] X.env).length = 2 := by rfl) (g4 : (assignEach [.Subscript (.Name n xp) ix p2, .Name m yp] X.env).findIdx? (·.1) = none := by rfl) :
    CSs X ρ (.Assign [.Tuple [.Subscript (.Name n xp) ix p2, .Name m yp] kt pt] e pos :: rest) W :=
  css_of (ps_asg pe_tw (pg_tup B.calm (pgs_cons (pg_sub (pe_var hN hv h1 h2) pe_tw set_list ha) (pgs_cons (pg_name (i := l) B.nd hl hxl hf) pgs_nil g2) g1) g3 g4) hs hw hh) fun F O σ H E I r => he.2 F O σ H _ I fun v H1 J rv => by
    cases rv with
    | @tup a vs _ h3 rs =>
      obtain ⟨u, w, rfl, r1, r2⟩ := two_of rs
      obtain ⟨e1, _, _⟩ := J.mt i q es' hi1
      refine ⟨a, [u, w], rfl, hid_ex.t h3, rfl, u, [w], rfl, .ref q, e1, hx.2 _ O σ H1 _ J.sup fun w' H2 L rw' => ?_⟩
      cases rw'
      have L' := L.weak J.le_sup J.od
      obtain ⟨_, _, vs1, e3, r3⟩ := L'.mt i q es' hi1
      refine ⟨q, vs1, k, j, rfl, rfl, e3, by rw [r3.length]; exact hj, w, [], rfl, rfl, r.nx _ _ _ kk ?_⟩
      have M := L'.mutUpd hi1 (r3.set j (SOk.keep rfl L r1))
      refine M.set ((SOk.keep rfl L r2).mono (ex_hid fun a o _ nn h => ?_))
      have ho : owns ρ1 q := ⟨es', List.mem_of_getElem? hi1⟩
      refine ⟨fun z => nn ?_, by rw [upd_ne fun e => nn (by rw [e]; exact .inr ho)]; exact h⟩
      unfold UU at z ⊢
      rw [owns_setM hi1] at z
      exact z
/-- x += e, ints -/
theorem css_augAdd (i : Nat) {k l : Int} (B : Bdn X) (hx0 : ρ[i]? = some (.dat (.int k))) (he : CE X ρ e (.int l) ρ1) (kk : CSs X (ρ1.set i (.dat (.int (k + l)))) rest W) (hi : X.N[i]? = some n := by rfl) (hx : Loc X.env.scope n := by first | exact Or.inl rfl | exact Or.inr rfl)
    (hf : X.fn n = true ∨ X.env.scope.names.lookup n = some .local := by first | exact .inl rfl | exact .inr rfl) : CSs X ρ (.AugAssign (.Name n p) .Add e pos :: rest) W :=
  css_of (ps_aug B.nd hi hx pe_tw ip_add hf) fun F O σ H E I r => by
    obtain ⟨v, e1, rv⟩ := I.dat i _ hx0
    cases rv
    refine ⟨_, e1, he.2 F O σ H _ I fun w H1 J rw' => ?_⟩
    cases rw'
    exact ⟨k, l, rfl, rfl, r.nx _ _ _ kk (J.set (.int _))⟩
/-- a, b, c = x, y, z: three local names -/
theorem css_par3 (i j l : Nat) {m2 : Str} {px py pz pt pt2 : Pos} {kt k2} (B : Bd X) (ha : CD X ρ [a, b, c] [x, y, z] ρ1) (k : CSs X (((ρ1.set i (.dat x)).set j (.dat y)).set l (.dat z)) rest W) (hij : i ≠ j := by decide) (hil : i ≠ l := by decide) (hjl : j ≠ l := by decide)
    (hi : X.N[i]? = some n := by rfl) (hj : X.N[j]? = some m := by rfl) (hl : X.N[l]? = some m2 := by rfl)
    (hx : X.env.scope.names.lookup n = some .local := by rfl) (hy : X.env.scope.names.lookup m = some .local := by rfl) (hz : X.env.scope.names.lookup m2 = some .local := by rfl)
    (hw : swappedStores [.Tuple [.Name n px, .Name m py, .Name m2 pz] kt pt] (.Tuple [a, b, c] k2 pt2) X.env = pure (some [n, m, m2]) := by rfl)
    (hs : swapsWithSole [.Tuple [.Name n px, .Name m py, .Name m2 pz] kt pt] (.Tuple [a, b, c] k2 pt2) pos.line X.env = pure false := by rfl) : CSs X ρ (.Assign [.Tuple [.Name n px, .Name m py, .Name m2 pz] kt pt] (.Tuple [a, b, c] k2 pt2) pos :: rest) W :=
  css_of (ps_par3 B.calm B.nd hi hj hl hij hil hjl hx hy hz pa_tw hw hs) fun F O σ H E I r => ha.2 F O σ H _ I fun vs H1 J rv => by
    obtain ⟨v, w, u, rfl, r1, r2, r3⟩ := three_of rv
    have ex : ∀ {ρ : Lo} {i : Nat} {d : D}, Ex (hid (UU O ρ) H1) (hid (UU O (ρ.set i (.dat d))) H1) := fun {ρ i d} => ex_hid fun a o _ nn h => ⟨fun z => nn (UU_set datNe z), h⟩
    refine ⟨v, w, u, rfl, r.nx _ _ _ k (((J.set r1).set (r2.mono ex)).set ((r3.mono ex).mono ex))⟩

/-! ### calls that turn an own list -/
/-- what a call wants of its arguments: the own list of a slot first, data behind -/
theorem argsM_ok {ws : List V} {cs : List V} (I : SOk K F O ρ σ H) (hi : ρ[i]? = some (.mut q es')) (rs : Reps K (hid (UU O ρ) H) ws ds) : SOk K (VL.sup (.mut q es' :: ds.map .dat) H) (fun a => UU O ρ a ∧ a ≠ q) (.mut q es' :: ds.map .dat) ((V.ref q :: ws).map some) H := by
  have ow : ∀ a, owns (.mut q es' :: ds.map .dat) a ↔ a = q := fun a => ⟨fun ⟨u, h⟩ => by
    rcases List.mem_cons.mp h with h | h
    · cases h; rfl
    · exact absurd ⟨u, h⟩ owns_dats, fun e => ⟨es', by rw [e]; exact List.mem_cons_self⟩⟩
  have ho : UU O ρ q := .inr ⟨es', List.mem_of_getElem? hi⟩
  have eu : ∀ a, UU O ρ a ↔ UU (fun a => UU O ρ a ∧ a ≠ q) (.mut q es' :: ds.map .dat) a := fun a => ⟨fun z => by
    by_cases e : a = q
    · exact .inr ((ow a).mpr e)
    · exact .inl ⟨z, e⟩, fun z => z.elim (·.1) fun z => by rw [(ow a).mp z]; exact ho⟩
  have eh : hid (UU (fun a => UU O ρ a ∧ a ≠ q) (.mut q es' :: ds.map .dat)) H = hid (UU O ρ) H := (hid_congr eu).symm
  obtain ⟨h1, h2, vs, h3, h4⟩ := I.mt i q es' hi
  refine ⟨?_, fun k d h => ?_, fun k p es h => ?_, fun k l p es es1 h h' => ?_, hid_ex, fun a ha => ?_, I.tb, fun _ _ h => nt_hid h⟩
  · rw [List.length_map, List.length_cons, List.length_cons, List.length_map, rs.length]
  · cases k with
    | zero => cases h
    | succ k =>
      rw [List.getElem?_cons_succ, List.getElem?_map] at h
      cases hq : ds[k]? with
      | none => rw [hq] at h; cases h
      | some d' =>
        rw [hq] at h
        cases h
        obtain ⟨v, e1, e2⟩ := rs.get hq
        refine ⟨v, by rw [List.map_cons, List.getElem?_cons_succ, List.getElem?_map, e1]; rfl, ?_⟩
        rw [eh]
        exact e2
  · cases k with
    | zero =>
      cases h
      refine ⟨rfl, ?_, vs, h3, by rw [eh]; exact h4⟩
      unfold VL.sup hid
      rw [if_pos (.inl ((ow q).mpr rfl))]
    | succ k =>
      rw [List.getElem?_cons_succ] at h
      exact absurd ⟨es, List.mem_of_getElem? h⟩ owns_dats
  · have z0 : ∀ {k : Nat} {p : Addr} {es : List D}, (Sl.mut q es' :: ds.map .dat)[k]? = some (.mut p es) → k = 0 := fun {k p es} h => by
      cases k with
      | zero => rfl
      | succ k =>
        rw [List.getElem?_cons_succ] at h
        exact absurd ⟨es, List.mem_of_getElem? h⟩ owns_dats
    rw [z0 h, z0 h']
  · obtain ⟨u, e, t⟩ := I.odU a ha.1
    exact ⟨u, hid_of (fun z => ha.2 ((ow a).mp z)) e⟩
theorem backM {ws : List V} {H1 : Hp} {cs : List D} (I : SOk K F O ρ σ H) (hi : ρ[i]? = some (.mut q es')) (J : SOk K (VL.sup (.mut q es' :: ds.map .dat) H) (fun a => UU O ρ a ∧ a ≠ q) (.mut q cs :: ds.map .dat) ((V.ref q :: ws).map some) H1) :
    SOk K F O (ρ.set i (.mut q cs)) σ H1 ∧ ∀ {v : V} {d : D}, Rep K (hid (UU (fun a => UU O ρ a ∧ a ≠ q) (.mut q cs :: ds.map .dat)) H1) v d → Rep K (hid (UU O (ρ.set i (.mut q cs))) H1) v d := by
  have ow : ∀ (es' : List D) a, owns (.mut q es' :: ds.map .dat) a ↔ a = q := fun es' a => ⟨fun ⟨u, h⟩ => by
    rcases List.mem_cons.mp h with h | h
    · cases h; rfl
    · exact absurd ⟨u, h⟩ owns_dats, fun e => ⟨es', by rw [e]; exact List.mem_cons_self⟩⟩
  have ho : UU O ρ q := .inr ⟨es', List.mem_of_getElem? hi⟩
  have eu1 : UU O (ρ.set i (.mut q cs)) = UU O ρ := funext fun a => by unfold UU; rw [owns_setM hi]
  have eh : hid (UU (fun a => UU O ρ a ∧ a ≠ q) (.mut q cs :: ds.map .dat)) H1 = hid (UU O (ρ.set i (.mut q cs))) H1 := by
    rw [eu1]
    refine hid_congr fun a => ⟨fun z => z.elim (·.1) fun z => by rw [(ow cs a).mp z]; exact ho, fun z => ?_⟩
    by_cases e : a = q
    · exact .inr ((ow cs a).mpr e)
    · exact .inl ⟨z, e⟩
  have ex : ∀ a o, NT o → a ≠ q → H a = some o → H1 a = some o := fun a o _ ne h => J.fr a o (hid_of (fun z => ne ((ow es' a).mp z)) h)
  have hl : i < ρ.length := (List.getElem?_eq_some_iff.mp hi).1
  obtain ⟨_, _, vs1, j3, j4⟩ := J.mt 0 q cs rfl
  have exh : Ex (hid (UU O ρ) H) (hid (UU O (ρ.set i (.mut q cs))) H1) := by
    rw [eu1]
    exact ex_hid fun a o t n h => ⟨n, ex a o t (fun e => n (by rw [e]; exact ho)) h⟩
  refine ⟨⟨by rw [List.length_set]; exact I.len, fun k d h => ?_, fun k p es h => ?_, fun k l p es es1 h h' => ?_, fun a o h => ?_, I.od, J.tb, I.ft⟩, fun {v d} r => by rw [← eh]; exact r⟩
  · by_cases e : i = k
    · subst e
      rw [List.getElem?_set_self hl] at h
      cases h
    · rw [List.getElem?_set_ne e] at h
      obtain ⟨v, e1, e2⟩ := I.dat k d h
      exact ⟨v, e1, e2.mono exh⟩
  · by_cases e : i = k
    · subst e
      rw [List.getElem?_set_self hl] at h
      cases h
      obtain ⟨h1, h2, _⟩ := I.mt i q es' hi
      exact ⟨h1, h2, vs1, j3, by rw [← eh]; exact j4⟩
    · rw [List.getElem?_set_ne e] at h
      obtain ⟨h1, h2, vs, h3, h4⟩ := I.mt k p es h
      have np : p ≠ q := fun z => by
        subst z
        exact e (I.nd i k p es' es hi h)
      exact ⟨h1, h2, vs, ex p _ inferInstance np h3, h4.mono exh⟩
  · have back : ∀ {k : Nat} {p : Addr} {es : List D}, (ρ.set i (.mut q cs))[k]? = some (.mut p es) → ∃ es0, ρ[k]? = some (.mut p es0) := fun {k p es} h => by
      by_cases e : i = k
      · subst e
        rw [List.getElem?_set_self hl] at h
        cases h
        exact ⟨es', hi⟩
      · rw [List.getElem?_set_ne e] at h
        exact ⟨es, h⟩
    obtain ⟨e0, h0⟩ := back h
    obtain ⟨e1, h1⟩ := back h'
    exact I.nd k l p e0 e1 h0 h1
  · have na : a ≠ q := fun z => by
      subst z
      have h1 := (I.mt i a es' hi).2.1
      rw [h1] at h
      cases h
    exact ex a o (I.ft a o h) na (I.fr a o h)
variable {k : Nat} {g : Str} {Sp : Spec}
/-- f(hand, e, ..): the own list of slot i turns -/
theorem c_callM (i : Nat) {cs : List D} {xp : Pos} (Fn : FnV X.prog X.w X.K X.mg X.base k g Sp) (hr : Room k X.A) (hi : ρ[i]? = some (.mut q ds)) (ha : CD X ρ es es' ρ1) {cs1 : List D} (hi1 : ρ1[i]? = some (.mut q cs1))
    (hS : ∀ R : Res → Lo → Prop, R (.ok d) (.mut q cs :: es'.map .dat) → Sp (.mut q cs1 :: es'.map .dat) R) (hg : Gl X g := by rfl) (hN : X.N[i]? = some n := by rfl) (hv : Vis X.env.scope n := by first | exact Or.inl rfl | exact Or.inr (Or.inl rfl) | exact Or.inr (Or.inr rfl))
    (h1 : (n == ("__debug__" : Str)) = false := by decide) (h2 : (n == ("__classdict__" : Str)) = false := by decide) (hdb : (g == ("__debug__" : Str)) = false := by decide)
    (he : starEach (.Name n xp :: es) X.env = (false, eval (.Name n xp) X.env) :: starEach es X.env := by rfl) (hpl : (backTo pos (starEach es X.env)).any (·.1) = false := by rfl) :
    CE X ρ (.Call (.Name g p) (.Name n xp :: es) [] pos) d (ρ1.set i (.mut q cs)) := by
  obtain ⟨f, fd, ps, hF, hm, hk, hb⟩ := Fn.ex
  refine .of (pe_call hF hr hg hm hk hb .nil passLN (pa_cons (pe_var hN hv h1 h2) pa_tw he) hdb he hpl) ⟨(owns_setM hi1).trans ha.1, fun F O σ H Q I qq => ?_⟩
  obtain ⟨e1, _, _⟩ := I.mt i q ds hi
  refine ⟨.ref q, e1, ha.2 F O σ H _ I fun ws H1 J rs => ?_⟩
  refine ⟨fun a => UU O ρ1 a ∧ a ≠ q, .mut q cs1 :: es'.map .dat, ?_, ?_⟩
  · rw [List.append_nil]
    exact argsM_ok (cs := []) J hi1 rs
  · refine hS _ fun _ H' L v rv => ?_
    rw [List.append_nil] at L
    obtain ⟨M1, M2⟩ := backM J hi1 L
    exact qq v H' M1 (M2 rv)
/-- .. with all its outcomes -/
theorem q_callM (i : Nat) {xp : Pos} {R : Res → Lo → Prop} (Fn : FnV X.prog X.w X.K X.mg X.base k g Sp) (hr : Room k X.A) (hi : ρ[i]? = some (.mut q ds)) (ha : CD X ρ es es' ρ1) {cs1 : List D} (hi1 : ρ1[i]? = some (.mut q cs1))
    (hS : Sp (.mut q cs1 :: es'.map .dat) fun r ρa => ∃ cs, ρa = .mut q cs :: es'.map .dat ∧ R r (ρ1.set i (.mut q cs))) (hg : Gl X g := by rfl) (hN : X.N[i]? = some n := by rfl) (hv : Vis X.env.scope n := by first | exact Or.inl rfl | exact Or.inr (Or.inl rfl) | exact Or.inr (Or.inr rfl))
    (h1 : (n == ("__debug__" : Str)) = false := by decide) (h2 : (n == ("__classdict__" : Str)) = false := by decide) (hdb : (g == ("__debug__" : Str)) = false := by decide)
    (he : starEach (.Name n xp :: es) X.env = (false, eval (.Name n xp) X.env) :: starEach es X.env := by rfl) (hpl : (backTo pos (starEach es X.env)).any (·.1) = false := by rfl) :
    CQ X ρ (.Call (.Name g p) (.Name n xp :: es) [] pos) R := fun F O σ H Q Wx I tk q1 q2 pins s Iv => by
  obtain ⟨f, fd, ps, hF, hm, hk, hb⟩ := Fn.ex
  refine (pe_callS hF hr hg hm hk hb (fun σ => L2N.passAt tk σ) (pa_cons (pe_var hN hv h1 h2) pa_tw he) hdb he hpl).run pins s σ H Q Iv ?_
  obtain ⟨e1, _, _⟩ := I.mt i q ds hi
  refine ⟨.ref q, e1, ha.2 F O σ H _ I fun ws H1 J rs => ?_⟩
  refine ⟨fun a => UU O ρ1 a ∧ a ≠ q, .mut q cs1 :: es'.map .dat, argsM_ok (cs := []) J hi1 rs, Fn.mono _ _ _ (fun r ρa ⟨cs, ea, hR⟩ => ?_) hS⟩
  subst ea
  intro _ H' L
  obtain ⟨M1, M2⟩ := backM J hi1 L
  cases r with
  | ok d => exact fun v rv => q1 d _ v H' hR ((owns_setM hi1).trans ha.1) M1 (M2 rv)
  | error er =>
    refine fun cls dd ⟨h5, h6⟩ => q2 er _ H' cls dd hR M1 ⟨h5, ?_⟩
    rcases h6 with h6 | ⟨aa, fv, h7, h8, h9⟩
    · exact .inl h6
    · have M3 : ∀ {u : V} {d : D}, Rep X.K (hid (UU (fun a => UU O ρ1 a ∧ a ≠ q) (.mut q cs :: es'.map .dat)) H') u d → Rep X.K (hid (UU O (ρ1.set i (.mut q cs))) H') u d := M2
      have M4 : ∀ {fvs : List (Str × V)} {fs : List (Str × D)}, RepF X.K (hid (UU (fun a => UU O ρ1 a ∧ a ≠ q) (.mut q cs :: es'.map .dat)) H') fvs fs → RepF X.K (hid (UU O (ρ1.set i (.mut q cs))) H') fvs fs := fun {fvs fs} h => by
        induction fvs generalizing fs with
        | nil => cases h; exact .nil
        | cons hd tl ih => cases h with
          | cons r1 r2 => exact .cons (M3 r1) (ih r2)
      refine .inr ⟨aa, fv, h7, ?_, M4 h9⟩
      have := nt_hid h8
      obtain ⟨n1, n2⟩ := of_hid h8
      refine hid_of (fun z => n1 ?_) n2
      unfold UU at z
      rw [owns_setM hi1] at z
      by_cases e : aa = q
      · exact .inr ⟨cs, by rw [e]; exact List.mem_cons_self⟩
      · exact .inl ⟨z, e⟩
/-- f(e, ..) on data with all its outcomes -/
theorem q_call {R : Res → Lo → Prop} (Fn : FnV X.prog X.w X.K X.mg X.base k g Sp) (hr : Room k X.A) (ha : CD X ρ (e :: es) ds ρ1) (hS : Sp (ds.map .dat) fun r ρa => ρa = ds.map .dat ∧ R r ρ1) (hg : Gl X g := by rfl) (hdb : (g == ("__debug__" : Str)) = false := by decide)
    (he : starEach (e :: es) X.env = (false, eval e X.env) :: starEach es X.env := by rfl) (hpl : (backTo pos (starEach es X.env)).any (·.1) = false := by rfl) : CQ X ρ (.Call (.Name g p) (e :: es) [] pos) R := fun F O σ H Q Wx I tk q1 q2 pins s Iv => by
  obtain ⟨f, fd, ps, hF, hm, hk, hb⟩ := Fn.ex
  refine (pe_callS hF hr hg hm hk hb (fun σ => L2N.passAt tk σ) pa_tw hdb he hpl).run pins s σ H Q Iv ?_
  refine ha.2 F O σ H _ I fun vs H1 J rs => ?_
  have eu : ∀ a, UU (UU O ρ1) (ds.map .dat) a ↔ UU O ρ1 a := fun a => ⟨fun z => z.elim id fun z => absurd z owns_dats, .inl⟩
  refine ⟨UU O ρ1, ds.map .dat, args_ok rs J.odU J.tb, Fn.mono _ _ _ (fun r ρa ⟨ea, hR⟩ => ?_) hS⟩
  subst ea
  intro _ H' L
  have M := J.ext (ex_dats L) L.tb
  cases r with
  | ok d => exact fun v rv => q1 d _ v H' hR ha.1 M (by rw [← hid_congr eu]; exact rv)
  | error er => exact fun cls dd h => q2 er _ H' cls dd hR M (by rw [← hid_congr eu]; exact h)
end
end VL
end

section
set_option Elab.async false
set_option linter.all false
set_option maxRecDepth 100000
set_option maxHeartbeats 4000000
namespace VL
open PySem PySem.Spec PyProof.Rows L2

/-! ### a def by its body -/
section
variable {P : Program} {w : World} {K : PySem.W.Frag} {mg : Str → Option Value} {base : Heap} {k : Nat} {x : Str} {st : Stmt} {f : Addr} {fd : FuncData} {N ps : List Str}
abbrev cx (P : Program) (w : World) (K : PySem.W.Frag) (mg : Str → Option Value) (base : Heap) (N : List Str) (x : Str) (st : Stmt) (f : Addr) (cdv : Value) (A : Around) (outer : List Env) (s : Shared) (H : Hp) (E : XK) : Cx := cxOf (L2N.CX P w) P w K mg base N x (defScope st) f cdv A outer s H E
theorem bd_cx {cdv : Value} {A : Around} {outer : List Env} {s : Shared} {H : Hp} {E : XK} (nd : N.Nodup) : Bd (cx P w K mg base N x st f cdv A outer s H E) := ⟨rfl, nd, passes_of rfl⟩
theorem takes_cx {cdv : Value} {A : Around} {outer : List Env} {s : Shared} {H : Hp} {E : XK} : L2N.Takes (cx P w K mg base N x st f cdv A outer s H E) (fun cls d _ H => E cls d H) := L2N.takes_of rfl rfl rfl rfl
theorem SOk.more {F : Hp} {O : Addr → Prop} {ρ : Lo} {σ : L2.St} {H : Hp} (I : SOk K F O ρ σ H) (m : Nat) : SOk K F O (ρ ++ List.replicate m .un) (σ ++ List.replicate m none) H := by
  have un : ∀ {i : Nat} {s : Sl}, (ρ ++ List.replicate m .un)[i]? = some s → s ≠ .un → ρ[i]? = some s := fun {i s} h hs => by
    by_cases hi : i < ρ.length
    · rw [List.getElem?_append_left hi] at h
      exact h
    · rw [List.getElem?_append_right (by omega)] at h
      have := List.mem_of_getElem? h
      exact absurd (List.eq_of_mem_replicate this) hs
  have left : ∀ {i : Nat} {v : Option V}, σ[i]? = some v → (σ ++ List.replicate m none)[i]? = some v := fun {i v} h => by
    rw [List.getElem?_append_left (List.getElem?_eq_some_iff.mp h).1]
    exact h
  have ow : owns (ρ ++ List.replicate m .un) = owns ρ := funext fun a => propext ⟨fun ⟨u, h⟩ => by
    obtain ⟨i, hi⟩ := List.getElem?_of_mem h
    exact ⟨u, List.mem_of_getElem? (un hi (by intro z; cases z))⟩, fun ⟨u, h⟩ => ⟨u, List.mem_append_left _ h⟩⟩
  have eu : UU O (ρ ++ List.replicate m .un) = UU O ρ := funext fun a => by unfold UU; rw [ow]
  refine ⟨by rw [List.length_append, List.length_append, List.length_replicate, List.length_replicate, I.len], fun i d h => ?_, fun i p ds h => ?_, fun i j p ds ds' h h' => ?_, I.fr, I.od, I.tb, I.ft⟩
  · obtain ⟨v, h1, h2⟩ := I.dat i d (un h (by intro z; cases z))
    rw [eu]
    exact ⟨v, left h1, h2⟩
  · obtain ⟨h1, h2, vs, h3, h4⟩ := I.mt i p ds (un h (by intro z; cases z))
    rw [eu]
    exact ⟨left h1, h2, vs, h3, h4⟩
  · exact I.nd i j p ds ds' (un h (by intro z; cases z)) (un h' (by intro z; cases z))
theorem start_eq {vs : List V} {ps : List Str} (h : vs.length = ps.length) : L2.start N vs = vs.map some ++ List.replicate (N.length - ps.length) none := by unfold L2.start; rw [h]
/-- data in, a result out -/
theorem fn_pure {A : List D → Res → Prop} (Fu : Fun K x x st f fd) (Sc : FnScope N ps (defScope st)) (hb : Binds K fd ps []) (hm : mg x = some (.ref f)) (hlen : ∀ ds r, A ds r → ds.length = ps.length)
    (hbody : ∀ (cdv : Value) (A' : Around) (outer : List Env) (s : Shared) (H : Hp) (E : XK), Room k (cx P w K mg base N x st f cdv A' outer s H E).A → Bd (cx P w K mg base N x st f cdv A' outer s H E) → ∀ ds r, A ds r →
      CSs (cx P w K mg base N x st f cdv A' outer s H E) (ds.map .dat ++ List.replicate (N.length - ps.length) .un) (defBody st) { nx := fun _ => r = .ok .non, rt := fun d _ => r = .ok d, er := fun e _ => r = .error e }) : FnV P w K mg base (k + 1) x (detS A) := by
  refine ⟨detS_mono, f, fd, ps, Fun.okXN Fu Sc (fun vs H Q E h => ?_) (fun cdv A' outer s H vs Q E hr h => ⟨_, pss_tw, ?_⟩), hm, Fu.kp, hb⟩
  · obtain ⟨O, ρ, I, ds, r, rfl, a, _⟩ := h
    have := I.len
    rw [List.length_map, List.length_map] at this
    rw [this]
    exact hlen ds r a
  · obtain ⟨O, ρ, I, ds, r, rfl, a, po⟩ := h
    have hl : vs.length = ps.length := by
      have := I.len
      rw [List.length_map, List.length_map] at this
      rw [this]
      exact hlen ds r a
    intro pins s1 Iv
    rw [start_eq hl] at Iv
    have post := po rfl
    have exH : ExN H (VL.sup (ds.map .dat) H) := fun a o _ h => hid_of owns_dats h
    have sub : ∀ {ρ' : Lo} {H' : Hp} a, UU O (ds.map .dat) a → UU O ρ' a := fun a z => z.elim .inl fun z => absurd z owns_dats
    refine hbody cdv A' outer s H E hr (bd_cx Sc.nd) ds r a (VL.sup (ds.map .dat) H) O _ H _ (I.more _) ⟨fun ρ' σ' H' h J => ?_, fun d ρ' σ' H' v h J rv => ?_, fun _ _ _ h _ => h.elim, fun _ _ _ h _ => h.elim, _, takes_cx, fun er ρ' σ' H' cls dd h J re => ?_⟩ pins s1 Iv
    · subst h
      exact post H' (I.ext (exH.trans J.fr.nt) J.tb) .non .non
    · subst h
      exact post H' (I.ext (exH.trans J.fr.nt) J.tb) v (rv.mono (ex_hid fun a o _ n h => ⟨fun z => n (sub (H' := H') a z), h⟩))
    · subst h
      obtain ⟨e1, e2⟩ := re
      refine post H' (I.ext (exH.trans J.fr.nt) J.tb) cls dd ⟨e1, ?_⟩
      rcases e2 with e2 | ⟨aa, fv, h7, h8, h9⟩
      · exact .inl e2
      · have ex := ex_hid (U := UU O ρ') (U' := UU O (ds.map .dat)) (H := H') (H' := H') fun a o _ n h => ⟨fun z => n (sub (H' := H') a z), h⟩
        exact .inr ⟨aa, fv, h7, ex _ _ h8, RepF.mono ex h9⟩
/-- an own list first, which turns; data behind -/
def mutS (A : List D → List D → (Res → List D → Prop) → Prop) : Spec := fun ρ R => ∃ q cs ds, ρ = .mut q cs :: ds.map .dat ∧ A cs ds fun r cs' => R r (.mut q cs' :: ds.map .dat)
theorem fn_mutC {A : List D → List D → (Res → List D → Prop) → Prop} (mo : ∀ cs ds (R R' : Res → List D → Prop), (∀ r c, R r c → R' r c) → A cs ds R → A cs ds R') (Fu : Fun K x x st f fd) (Sc : FnScope N ps (defScope st)) (hb : Binds K fd ps []) (hm : mg x = some (.ref f)) (hlen : ∀ cs ds R, A cs ds R → ds.length + 1 = ps.length)
    (hbody : ∀ (cdv : Value), fd.code = cdv → ∀ (A' : Around) (outer : List Env) (s : Shared) (H : Hp) (E : XK), Room k (cx P w K mg base N x st f cdv A' outer s H E).A → Bd (cx P w K mg base N x st f cdv A' outer s H E) → ∀ q cs ds R, A cs ds R →
      CSs (cx P w K mg base N x st f cdv A' outer s H E) (.mut q cs :: ds.map .dat ++ List.replicate (N.length - ps.length) .un) (defBody st)
        { nx := fun ρ' => ∃ cs', ρ'[0]? = some (.mut q cs') ∧ R (.ok .non) cs', rt := fun d ρ' => ∃ cs', ρ'[0]? = some (.mut q cs') ∧ R (.ok d) cs', er := fun e ρ' => ∃ cs', ρ'[0]? = some (.mut q cs') ∧ R (.error e) cs' }) : FnV P w K mg base (k + 1) x (mutS A) := by
  refine ⟨fun ρ R R' h ⟨q, cs, ds, e, a⟩ => ⟨q, cs, ds, e, mo _ _ _ _ (fun r c hr => h _ _ hr) a⟩, f, fd, ps, Fun.okXC Fu Sc (fun vs H Q E h => ?_) (fun cdv hcd A' outer s H vs Q E hr h => ⟨_, pss_tw, ?_⟩), hm, Fu.kp, hb⟩
  · obtain ⟨O, ρ, I, q, cs, ds, rfl, a⟩ := h
    have := I.len
    rw [List.length_map, List.length_cons, List.length_map] at this
    rw [this]
    exact hlen _ _ _ a
  · obtain ⟨O, ρ, I, q, cs, ds, rfl, a⟩ := h
    have hl : vs.length = ps.length := by
      have := I.len
      rw [List.length_map, List.length_cons, List.length_map] at this
      rw [this]
      exact hlen _ _ _ a
    intro pins s1 Iv
    rw [start_eq hl] at Iv
    have ow : ∀ (cs : List D) a, owns (.mut q cs :: ds.map .dat) a ↔ a = q := fun cs a => ⟨fun ⟨u, h⟩ => by
      rcases List.mem_cons.mp h with h | h
      · cases h; rfl
      · exact absurd ⟨u, h⟩ owns_dats, fun e => ⟨cs, by rw [e]; exact List.mem_cons_self⟩⟩
    have owe : ∀ cs', owns (.mut q cs' :: ds.map .dat) = owns (.mut q cs :: ds.map .dat) := fun cs' => funext fun a => propext ((ow cs' a).trans (ow cs a).symm)
    -- behind the body: the arguments, the list as it stands
    have fin : ∀ {ρ' : Lo} {σ' : L2.St} {H' : Hp} {cs' : List D}, ρ'[0]? = some (.mut q cs') → SOk K (VL.sup (.mut q cs :: ds.map .dat) H) O ρ' σ' H' →
        SOk K (VL.sup (.mut q cs :: ds.map .dat) H) O (.mut q cs' :: ds.map .dat) (vs.map some) H' ∧ Ex (hid (UU O ρ') H') (hid (UU O (.mut q cs' :: ds.map .dat)) H') := fun {ρ' σ' H' cs'} h0 J => by
      have sub : ∀ a, UU O (.mut q cs' :: ds.map .dat) a → UU O ρ' a := fun a z => z.elim .inl fun z => .inr ⟨cs', by rw [(ow cs' a).mp z]; exact List.mem_of_getElem? h0⟩
      have ex : Ex (hid (UU O ρ') H') (hid (UU O (.mut q cs' :: ds.map .dat)) H') := ex_hid fun a o _ n h => ⟨fun z => n (sub a z), h⟩
      have exA : Ex (hid (UU O (.mut q cs :: ds.map .dat)) H) (hid (UU O (.mut q cs' :: ds.map .dat)) H') := ex_hid fun a o _ n h => by
        refine ⟨fun z => n (z.elim .inl fun z => .inr (by rw [← owe cs']; exact z)), J.fr a o (hid_of (fun z => n (.inr z)) h)⟩
      obtain ⟨j1, j2, ws, j3, j4⟩ := J.mt 0 q cs' h0
      refine ⟨⟨by rw [I.len]; rfl, fun i d h => ?_, fun i p es h => ?_, fun i j p es es' h h' => ?_, J.fr, I.od, J.tb, I.ft⟩, ex⟩
      · cases i with
        | zero => cases h
        | succ i =>
          obtain ⟨v, e1, e2⟩ := I.dat (i + 1) d h
          exact ⟨v, e1, e2.mono exA⟩
      · cases i with
        | zero =>
          cases h
          obtain ⟨i1, i2, _⟩ := I.mt 0 q cs rfl
          exact ⟨i1, i2, ws, j3, j4.mono ex⟩
        | succ i => exact absurd ⟨es, List.mem_of_getElem? (show (ds.map Sl.dat)[i]? = some (.mut p es) from h)⟩ owns_dats
      · have z0 : ∀ {i : Nat} {p : Addr} {es : List D}, (Sl.mut q cs' :: ds.map .dat)[i]? = some (.mut p es) → i = 0 := fun {i p es} h => by
          cases i with
          | zero => rfl
          | succ i => exact absurd ⟨es, List.mem_of_getElem? (show (ds.map Sl.dat)[i]? = some (.mut p es) from h)⟩ owns_dats
        rw [z0 h, z0 h']
    refine hbody cdv hcd A' outer s H E hr (bd_cx Sc.nd) q cs ds _ a (VL.sup (.mut q cs :: ds.map .dat) H) O _ H _ (I.more _) ⟨fun ρ' σ' H' h J => ?_, fun d ρ' σ' H' v h J rv => ?_, fun _ _ _ h _ => h.elim, fun _ _ _ h _ => h.elim, _, takes_cx, fun er ρ' σ' H' cls dd h J re => ?_⟩ pins s1 Iv
    · obtain ⟨cs', h0, po⟩ := h
      obtain ⟨M, _⟩ := fin h0 J
      exact po (owe cs') H' M .non .non
    · obtain ⟨cs', h0, po⟩ := h
      obtain ⟨M, ex⟩ := fin h0 J
      exact po (owe cs') H' M v (rv.mono ex)
    · obtain ⟨cs', h0, po⟩ := h
      obtain ⟨M, ex⟩ := fin h0 J
      obtain ⟨e1, e2⟩ := re
      refine po (owe cs') H' M cls dd ⟨e1, ?_⟩
      rcases e2 with e2 | ⟨aa, fv, h7, h8, h9⟩
      · exact .inl e2
      · exact .inr ⟨aa, fv, h7, ex _ _ h8, RepF.mono ex h9⟩
theorem fn_mut {A : List D → List D → (Res → List D → Prop) → Prop} (mo : ∀ cs ds (R R' : Res → List D → Prop), (∀ r c, R r c → R' r c) → A cs ds R → A cs ds R') (Fu : Fun K x x st f fd) (Sc : FnScope N ps (defScope st)) (hb : Binds K fd ps []) (hm : mg x = some (.ref f)) (hlen : ∀ cs ds R, A cs ds R → ds.length + 1 = ps.length)
    (hbody : ∀ (cdv : Value) (A' : Around) (outer : List Env) (s : Shared) (H : Hp) (E : XK), Room k (cx P w K mg base N x st f cdv A' outer s H E).A → Bd (cx P w K mg base N x st f cdv A' outer s H E) → ∀ q cs ds R, A cs ds R →
      CSs (cx P w K mg base N x st f cdv A' outer s H E) (.mut q cs :: ds.map .dat ++ List.replicate (N.length - ps.length) .un) (defBody st)
        { nx := fun ρ' => ∃ cs', ρ'[0]? = some (.mut q cs') ∧ R (.ok .non) cs', rt := fun d ρ' => ∃ cs', ρ'[0]? = some (.mut q cs') ∧ R (.ok d) cs', er := fun e ρ' => ∃ cs', ρ'[0]? = some (.mut q cs') ∧ R (.error e) cs' }) : FnV P w K mg base (k + 1) x (mutS A) :=
  fn_mutC mo Fu Sc hb hm hlen fun cdv _ A' outer s H E => hbody cdv A' outer s H E
end

/-! ### errors raised -/
section
variable {X : Cx} {e : Expr} {ρ ρ1 : Lo} {d : D} {pos p : Pos} {x f : Str} {C fI : Addr} {W : WE} {rest : List Stmt} {k : Nat}
/-- what the written part says of an own error class without __init__ -/
structure Xc (X : Cx) (x : Str) (C : Addr) : Prop where
  g : X.mg x = some (.ref C)
  q : PySem.W.excIn X.K C [.type "ValueError", .type "Exception", .type "BaseException", .type "object"] "ValueError.__new__" = true
  kp : PySem.W.keepIn X.K (.ref C) = true
  exC : PySem.W.subIn X.K (.ref C) (.type "BaseException") = some true
  tyC : PySem.W.typeIn X.K (.ref C) = some (.type "type")
theorem pmk_own0 (T : Xc X x C) (hg : Gl X x) (hdb : (x == ("__debug__" : Str)) = false := by decide) : L2N.PMk X (.Call (.Name x p) [] [] pos) (fun _ H Q => Q (.ref C) none H) := by
  intro pins s σ H Q I h
  refine wpAny_Call_Name_kw (ld_glob I hg T.g ?_ hdb)
  refine PySem.W.callWith_K0 I.kIn T.kp ?_
  show wpAny _ _ (call (.ref C) []) _ _ _
  obtain ⟨bm, N, nm, qn, bs, hdct, sn, sub, ab, col, dd, k0, k1, k2, k3, k5, mN, hC, hN, hni, T'⟩ := exc_obj I.kIn T.q
  refine wpAny_call_exc_subT PySem.F.excBase_ValueError T' hC hN hni (fun h' e hm => ?_) (Nat.zero_le _)
  exact L2N.mk_of I hm (raises_own T.exC T.tyC) h (I.hok.gone hm.new)
theorem css_raise0 {rp : Pos} (B : Bd X) (T : Xc X x C) (h : W.er ⟨C, []⟩ ρ) (hg : Gl X x := by rfl) (hdb : (x == ("__debug__" : Str)) = false := by decide) : CSs X ρ (.Raise (some (.Call (.Name x p) [] [] pos)) none rp :: rest) W := by
  refine css_cons fun F O σ H E I r pins s J => ?_
  obtain ⟨Wx, t, q⟩ := r.er
  exact (L2N.ps_raise B.calm t (pmk_own0 T hg hdb)).run pins s σ H E J (q _ ρ σ H _ _ h I ⟨rfl, .inl ⟨rfl, rfl⟩⟩)
/-- of one whose __init__ stores its one argument in the field f -/
def spInit (K : PySem.W.Frag) (f : Str) : Sp := fun vs H Q E => ∃ a C v, vs = [.ref a, v] ∧ OexC K C ∧ PySem.W.findIn K (.ref C) f = some none ∧ H a = some (exo a C none) ∧ ∀ dx, H dx = none → dx ≠ a → Q .non (upd (upd H dx (exd dx [(f, v)])) a (exo a C (some dx)))
structure Xi (X : Cx) (x f : Str) (C : Addr) : Prop where
  g : X.mg x = some (.ref C)
  o : OexC X.K C
  nf : PySem.W.findIn X.K (.ref C) f = some none
  ex : ∃ fI fd ps, PySem.W.findIn X.K (.ref C) "__init__" = some (some (.ref fI)) ∧ PySem.W.typeIn X.K (.ref fI) = some (.type "function") ∧ FnOk X.prog X.w X.K X.mg X.base (L2N.CX X.prog X.w) 1 fI fd ps (spInit X.K f) ∧ Binds X.K fd ps []
theorem css_raise1 {rp : Pos} (B : Bd X) (T : Xi X x f C) (hr : Room 2 X.A) (he : CE X ρ e d ρ1) (h : W.er ⟨C, [(f, d)]⟩ ρ1) (hg : Gl X x := by rfl) (hdb : (x == ("__debug__" : Str)) = false := by decide)
    (hs : starEach (e :: []) X.env = (false, eval e X.env) :: starEach [] X.env := by rfl) (hpl : (backTo pos (starEach [] X.env)).any (·.1) = false := by rfl) : CSs X ρ (.Raise (some (.Call (.Name x p) [e] [] pos)) none rp :: rest) W := by
  refine css_cons fun F O σ H E I r pins s J => ?_
  obtain ⟨Wx, t, q⟩ := r.er
  obtain ⟨fI, fd, ps, h1, h2, h3, h4⟩ := T.ex
  refine (L2N.ps_raise B.calm t (pmk_oexN T.o h1 h2 h3 hr h4 .nil passLN hg T.g pa_tw hdb hs hpl)).run pins s σ H E J ?_
  refine (d_cons he d_nil hs).2 F O σ H _ I fun vs H1 L rs => ?_
  obtain ⟨v, rfl, rv⟩ := one_of rs
  refine ⟨(show 1 ≤ 1000 from by decide), fun a ha => ?_⟩
  refine ⟨a, C, v, rfl, T.o, T.nf, upd_same, fun dx hdx hne => ⟨rfl, dx, [(f, v)], upd_same, ?_, ?_, ?_⟩⟩
  · rw [upd_ne hne, upd_same]
  · rw [upd_ne hne] at hdx
    exact hdx
  · have hdx' : H1 dx = none := by
      rw [upd_ne hne] at hdx
      exact hdx
    have eh : upd (L2.del (upd (upd (upd H1 a (exo a C none)) dx (exd dx [(f, v)])) a (exo a C (some dx))) a) dx (.xd [(f, v)]) = upd H1 dx (.xd [(f, v)]) := by
      funext b
      by_cases e1 : b = dx
      · subst e1
        rw [upd_same, upd_same]
      · rw [upd_ne e1, upd_ne e1]
        by_cases e2 : b = a
        · subst e2
          rw [L2.del_same, ha]
        · rw [L2.del_ne e2, upd_ne e2, upd_ne e1, upd_ne e2]
    rw [eh]
    exact q _ ρ1 σ _ _ _ h (L.new hdx') ⟨rfl, .inr ⟨dx, [(f, v)], rfl, L.newHid hdx', .cons (rv.mono (ex_new hdx')) .nil⟩⟩
end
/-- such an __init__ -/
theorem ok_init {P : Program} {w : World} {K : PySem.W.Frag} {mg : Str → Option Value} {base : Heap} {qual f g : Str} {st : Stmt} {fI : Addr} {fd : FuncData} (Fu : Fun K "__init__" qual st fI fd) (Sc : FnScope ([("self" : Str), g] : List Str) ([("self" : Str), g] : List Str) (defScope st))
    (hbody : ∀ X : Cx, X.N = [("self" : Str), g] → X.env.scope = defScope st → PSs X (defBody st) (tOst X.K f (tVar 0) (tVar 1))) : FnOk P w K mg base (L2N.CX P w) 1 fI fd [("self" : Str), g] (spInit K f) := by
  refine Fun.okXN Fu Sc (fun vs H Q E h => ?_) (fun cdv A' outer s H vs Q E hr h => ⟨_, hbody _ rfl rfl, ?_⟩)
  · obtain ⟨a, C, v, rfl, _⟩ := h
    rfl
  · obtain ⟨a, C, v, rfl, h1, h2, h3, h4⟩ := h
    exact ⟨v, rfl, .ref a, rfl, a, C, rfl, h1, h2, .inl ⟨h3, fun dx n ne => h4 dx n ne⟩⟩
end VL
end

section
set_option Elab.async false
set_option linter.all false
set_option maxRecDepth 100000
set_option maxHeartbeats 4000000
namespace VL
open PySem PySem.Spec PyProof.Rows L2
open AutoSeq1 (wpAny_loadPart')

/-! ### enumerate of a tuple -/
theorem meets_enumerate_newT (l : Addr) (items : Array Value) :
    Meets (Builtin.«enumerate.__new__» ⟨[.type "enumerate", .ref l], []⟩) (fun _ R s => s.heap.IsTuple l items ∧
      R (.ok (.ret (.ref (s.heap.push { cls := .type "tuple_iterator", data := .fields #[.ref l, .int 0 0] }).objs.size)))
        { s with heap := (s.heap.push { cls := .type "tuple_iterator", data := .fields #[.ref l, .int 0 0] }).push { cls := .type "enumerate", data := .fields #[.none, .bool false, .ref s.heap.objs.size, rawInt 0, .none, .none] } }) :=
  .of_wp fun prog w A R s h => by
    obtain ⟨hp, g, d, tk, os⟩ := s; obtain ⟨hl, h⟩ := h
    have hsub := sub_enumerate
    have hL : Heap.IsTuple (Shared.heap ⟨hp, g, d, tk, os⟩) l items := hl
    wp_walk using wpAny_pyIter_tuple hL
    refine wpAny_stack_any fun st => wpAny_pure ?_
    split
    · rename_i c _ _ _ _ _
      cases (c == Value.type "enumerate")
      · wp_walk using wpAny_pyIter_tuple hL
        exact ⟨_, rfl, h⟩
      · wp_walk using wpAny_pyIter_tuple hL
        exact ⟨_, rfl, h⟩
    · wp_walk using wpAny_pyIter_tuple hL
      exact ⟨_, rfl, h⟩
section
variable {prog : Program} {w : World} {A : Around} {E : Value → Shared → Prop} {s : Shared}
theorem call_enumerate_tuple {l : Addr} {items : Array Value} {Q : Value → Shared → Prop} (hL : s.heap.IsTuple l items)
    (h : ∀ h', IsEnum h' (s.heap.objs.size + 1) s.heap.objs.size 0 .none → h'.IsTupleIter s.heap.objs.size l 0 → h'.objs.size = s.heap.objs.size + 2 →
      (∀ b o, s.heap.get? b = some o → h'.get? b = some o) → Q (.ref (s.heap.objs.size + 1)) { s with heap := h' }) :
    wpAny (model prog w) A (call (.type "enumerate") [.ref l]) Q E s := by
  refine callType_new F.called_enumerate (by decide) (F.typeCall_enumerate_1 _) (F.newCall_enumerate_1 _) (fun obj => F.args_object_init_2 obj _) F.entry_enumerate_new
    (meets_enumerate_newT l items) ⟨hL, ?_⟩
  have hz : (s.heap.push { cls := .type "tuple_iterator", data := .fields #[.ref l, .int 0 0] }).objs.size = s.heap.objs.size + 1 := Heap.size_push ..
  show _ ∧ _
  rw [hz]
  have he : IsEnum ((s.heap.push { cls := .type "tuple_iterator", data := .fields #[.ref l, .int 0 0] }).push
      { cls := .type "enumerate", data := .fields #[.none, .bool false, .ref s.heap.objs.size, rawInt 0, .none, .none] }) (s.heap.objs.size + 1) s.heap.objs.size 0 .none := by
    have := Heap.get?_push_size (s.heap.push { cls := .type "tuple_iterator", data := .fields #[.ref l, .int 0 0] })
      (o := { cls := .type "enumerate", data := .fields #[.none, .bool false, .ref s.heap.objs.size, rawInt 0, .none, .none] }) rfl
    rw [hz] at this; exact this
  refine ⟨⟨_, he, rfl⟩, h _ he ⟨_, Heap.get?_push_of_some _ (Heap.get?_push_size _ rfl), rfl, rfl⟩ (by rw [Heap.size_push, hz]) fun b o x => Heap.get?_push_of_some _ (Heap.get?_push_of_some _ x)⟩
theorem draws_tuple (hh : A.handled = none) (it l : Addr) (hne : l ≠ it) (items : Array Value) :
    Draws prog w A it [it, l] items.size (fun i v => items[i]? = some v) (fun i h => h.IsTupleIter it l i ∧ h.IsTuple l items) where
  live := fun _ _ st => let ⟨o, ho, _⟩ := st.1; ⟨o, ho⟩
  frame := fun _ _ _ st hk => ⟨st.1.at fun o e => hk it (by simp) o e, st.2.at fun o e => hk l (by simp) o e⟩
  item := fun i s Q E hi st hQ => by
    refine RZ.nextOf_tuple_item st.1 st.2 (x := items[i]) (by simp [hi]) fun h' hit' hs' => ?_
    exact hQ _ h' s.toks (by simp [hi]) ⟨hit', st.2.at fun o e => hs'.extBut l o hne e⟩ hs'
  done := fun s Q E st hE => RZ.nextOf_tuple_end hh st.1 st.2 (by simp) hE
end
/-- the tuple at a as it stands, number and item in new pairs -/
def IteT (K : PySem.W.Frag) (a : Addr) : It :=
  ⟨fun i H => ∃ (xs : List V) (x : V), SqT K H a xs ∧ xs[i]? = some x, fun i H v H' => ∃ T x, v = .ref T ∧ H T = none ∧ H' = upd H T (.tup [.int (i : Nat), x]) ∧ ∀ xs, SqT K H a xs → xs[i]? = some x, fun i H => ∃ xs : List V, SqT K H a xs ∧ xs.length ≤ i⟩
theorem turn_enumT {P : Program} {w : World} {K : PySem.W.Frag} {elts : List Expr} {kk : Nat} {tpos : Pos} (a e it : Addr) :
    Turn P w K (.Tuple elts kk tpos) (IteT K a) [e, it] e (fun i h => (∃ old, IsEnum h e it ((i : Nat) : Int) old) ∧ h.IsTupleIter it a i ∧ e ≠ it ∧ a ≠ it ∧ a ≠ e) where
  mem := by simp
  obj := fun i h st b hb => by
    obtain ⟨⟨old, he⟩, ⟨o, ho, hc, hd⟩, _⟩ := st
    have e' : b = e ∨ b = it := by simpa using hb
    rcases e' with z | z
    · rw [z]; exact ⟨_, he, fun v q => by cases q⟩
    · rw [z]; exact ⟨o, ho, fun v q => by rw [hd] at q; cases q⟩
  keep := fun i h h' st k => let ⟨⟨old, he⟩, hi, hne⟩ := st; ⟨⟨old, k e (by simp) _ he⟩, hi.at fun o q => k it (by simp) o q, hne⟩
  item := by
    intro X hP hw hK hc i pins s σ H E I hf st hg
    subst hP hw hK
    obtain ⟨⟨old, he⟩, hit, hne, hai, hae⟩ := st
    obtain ⟨xs, x, hq, hx⟩ := hg
    obtain ⟨its, rv, p, hz⟩ := I.tuple hq
    obtain ⟨u, hu, ru⟩ := rv.get hx
    have hel : e < s.heap.objs.size := Heap.lt_size he
    have hil : it < s.heap.objs.size := by obtain ⟨_, q, _⟩ := hit; exact Heap.lt_size q
    have hlt : i < its.toArray.size := by rw [List.size_toArray]; exact (List.getElem?_eq_some_iff.mp hu).1
    have Dr := draws_tuple (prog := X.prog) (w := X.w) (A := X.A.in1) (I.ok.hd hc) it a hai its.toArray
    refine wpAny_pyNext_enum_itemD Dr he ⟨hit, (show s.heap.IsTuple a its.toArray from p)⟩ hlt hne (by simp; exact ⟨hne, fun z => hae z.symm⟩) fun y h' tk hP ho hs' hT hsz hk => ?_
    have hy : y = u := by
      have q : its.toArray[i]? = some y := hP
      rw [List.getElem?_toArray, hu] at q
      exact (Option.some.inj q).symm
    subst hy
    refine ⟨_, rfl, wpAny_letOwnedTupleGo_enum (s := { s with heap := h', toks := tk + 1 }) ho fun h'' he' sb => ?_⟩
    have hT2 : h''.get? s.heap.objs.size = some { cls := .type "tuple", data := .seq #[.int i tk, y] } := (sb.2 _ (Nat.ne_of_gt hel)).trans hT
    have new : ObjOk X.prog X.w (upd H s.heap.objs.size (.tup [.int (i : Nat), x])) h'' s.heap.objs.size (.tup [.int (i : Nat), x]) :=
      ⟨by show 2 ≤ sizeLine; decide, [.int i tk, y], .cons ⟨_, rfl⟩ (.cons ru .nil), ⟨_, hT2, rfl, _, rfl⟩⟩
    have I1 : Inv X pins σ (upd H s.heap.objs.size (.tup [.int (i : Nat), x])) { s with heap := h'', toks := tk + 1 } :=
      I.turnedNew (ch := [e, it]) (fun b ob hb q => (sb.2 b (fun z => hb (by simp [z]))).trans (hk b ob (fun z => hb (by simp [z])) (fun z => hb (by simp [z])) q)) hf (Nat.le_refl _) new
    refine ⟨.ref s.heap.objs.size, _, I1, rfl, ⟨_, x, rfl, I.hok.fresh (Nat.le_refl _), rfl, fun ys hy => by rw [I.tuple_inj hy hq]; exact hx⟩, ⟨⟨y, ?_⟩, hs'.1.at fun o q => (sb.2 it (Ne.symm hne)).trans q, hne, hai, hae⟩, fun b hb => ?_⟩
    · have e1 : ((i + 1 : Nat) : Int) = (i : Int) + 1 := by omega
      rw [e1]; exact he'
    · have hb' : b < s.heap.objs.size := by
        have e' : b = e ∨ b = it := by simpa using hb
        rcases e' with z | z
        · rw [z]; exact hel
        · rw [z]; exact hil
      rw [upd_ne (Nat.ne_of_lt hb')]
      exact (hf b hb).1
  done := by
    intro X hP hw hK hc i pins s σ H E I hf st hg
    subst hP hw hK
    obtain ⟨⟨old, he⟩, hit, hne, hai, hae⟩ := st
    obtain ⟨xs, hq, hx⟩ := hg
    obtain ⟨its, rv, p, hz⟩ := I.tuple hq
    obtain ⟨f0, f1, f2, f3, f4, f5⟩ := hf it (by simp)
    have hl := rv.length
    unfold pyNext
    have hT : s.TypeIs (.ref e) "enumerate" := ⟨_, he, rfl⟩
    refine wpAny_bind (wpAny_attempt (wpAny_callSpecial?_slot (name := Str.ofString "__next__") hT F.slot_enumerate_next
      (wpAny_call_entry F.slot_enumerate_next hT F.entry_enumerate_next ?_ (F.args_enumerate_next_1 _))))
    show wpAny _ _ (field (.ref e) 2 >>= _) _ _ _
    refine wpAny_bind (wpAny_field he rfl (x := .ref it) rfl ?_)
    refine wpAny_bind (RZ.nextOf_tuple_end (A := X.A.in1) (I.ok.hd hc) hit (show s.heap.IsTuple a its.toArray from p) (by rw [List.getElem?_toArray]; exact List.getElem?_eq_none (by omega)) fun h' x he' hx' => ?_)
    obtain ⟨o, ho, hc⟩ := hx'
    refine wpAny_bind (wpAny_isInstance (T := "StopIteration") (b := true) ⟨o, ho, hc⟩ isSubtype_stop ?_)
    exact wpAny_pure ⟨rfl, I.turned (t' := s.toks) (fun b o hb q => he' b o hb q) f0 f1 f3 f4 f5⟩
  self := fun A i s Q E st h => let ⟨⟨_, he⟩, _⟩ := st; wpAny_pyIter_enum he h
def iEnumT (K : PySem.W.Frag) (ta : TA) : TI := fun σ H R => ta σ H fun vs H1 => ∃ a xs, vs = [.ref a] ∧ SqT K H1 a xs ∧ R (IteT K a) H1
theorem pi_enumT {X : Cx} {e : Expr} {ta : TA} {p pos tpos : Pos} {elts : List Expr} {kk : Nat} (hg : Gl X "enumerate") (hm : X.mg "enumerate" = none) (ha : PA X [e] ta) (hs : starEach [e] X.env = [(false, eval e X.env)] := by rfl) :
    PI X (.Tuple elts kk tpos) (.Call (.Name "enumerate" p) [e] [] pos) (iEnumT X.K ta) := by
  refine ⟨fun pins s σ H R I h => ?_⟩
  refine Call_ (ld_blt I hg hm boot_enumerate (PyProof.Rows.callWith_type1 (thn (ha.run pos pins s σ H _ I h) fun us s1 ⟨vs, H1, I1, r1, q1⟩ => ?_) hs rfl))
  obtain ⟨a, xs, ex, hq, q⟩ := q1
  subst ex
  cases r1 with
  | cons r rr =>
    cases rr
    cases r
    obtain ⟨its, rv, p', hz⟩ := I1.tuple hq
    have hlt := p'.lt
    refine call_enumerate_tuple (show s1.heap.IsTuple a its.toArray from p') fun h' he hit hsz hk => wpAny_pyIter_enum he ?_
    have I2 : Inv X pins σ H1 { s1 with heap := h' } := I1.kept (t' := s1.toks) hk
    refine ⟨s1.heap.objs.size + 1, [s1.heap.objs.size + 1, s1.heap.objs.size], _, _, H1, rfl, I2, turn_enumT a (s1.heap.objs.size + 1) s1.heap.objs.size, ⟨⟨.none, he⟩, hit, Nat.succ_ne_self _, Nat.ne_of_lt hlt, Nat.ne_of_lt (Nat.lt_succ_of_lt hlt)⟩, fun b hb => ?_, q⟩
    have e' : b = s1.heap.objs.size + 1 ∨ b = s1.heap.objs.size := by simpa using hb
    have hle : s1.heap.objs.size ≤ b := by
      rcases e' with z | z
      · rw [z]; exact Nat.le_add_right _ _
      · rw [z]; exact Nat.le_refl _
    exact I1.fpOk hle (I1.hok.fresh hle)
end VL
end

section
set_option Elab.async false
set_option linter.all false
set_option maxRecDepth 100000
set_option maxHeartbeats 4000000
namespace VL
open PySem PySem.Spec PyProof.Rows L2
theorem walk_enumT {K : PySem.W.Frag} {a : Addr} {xs : List V} : Walk (IteT K a) xs.length (fun H => SqT K H a xs) (YPair (fun i => some (.int (i : Nat))) (fun i => xs[i]?)) :=
  ⟨fun i H hi h => ⟨xs, xs[i], h, by simp [hi]⟩, fun H h => ⟨xs, h, Nat.le_refl _⟩, fun i H x H' hi h ⟨T, y, e1, e2, e3, e4⟩ => ⟨T, _, y, e1, e2, e3, rfl, e4 xs h⟩⟩
theorem walk_zipT {K : PySem.W.Frag} {a b : Addr} {xs ys : List V} {n : Nat} (hn : n = min xs.length ys.length) : Walk (RZ.ItzT K a b) n (fun H => SqT K H a xs ∧ SqT K H b ys) (YPair (fun i => xs[i]?) (fun i => ys[i]?)) := by
  subst hn
  exact ⟨fun i H hi h => ⟨xs, ys, xs[i]'(by omega), ys[i]'(by omega), h.1, h.2, by simp, by simp⟩, fun H h => ⟨xs, ys, h.1, h.2, by omega⟩,
    fun i H x H' hi h ⟨T, y, z, e1, e2, e3, e4, e5⟩ => ⟨T, y, z, e1, e2, e3, e4 xs h.1, e5 ys h.2⟩⟩
section
variable {X : Cx} {e a b c tg : Expr} {es : List Expr} {ρ ρ1 ρ2 ρ3 ρ' : Lo} {x y d : D} {pos p p2 : Pos} {F F' : Hp} {O : Addr → Prop} {σ : L2.St} {H H' S T : Hp} {i j : Nat} {n m : Str} {ds es' : List D} {q : Addr} {K : PySem.W.Frag}
theorem ci_enumT {xs : List D} {elts : List Expr} {kk : Nat} {tpos : Pos} (hm : X.mg "enumerate" = none) (ha : CE X ρ a (.tup xs) ρ1) (hg : Gl X "enumerate" := by rfl)
    (hs : starEach [a] X.env = [(false, eval a X.env)] := by rfl) (he : starEach [a] X.env = (false, eval a X.env) :: starEach [] X.env := by rfl) : CI X ρ (.Tuple elts kk tpos) (.Call (.Name "enumerate" p) [a] [] pos) (enumD xs) ρ1 :=
  ⟨_, pi_enumT hg hm pa_tw hs, ha.1, fun F O σ H R I k => (d_cons ha d_nil he).2 F O σ H _ I fun vs H1 J r => by
    obtain ⟨v, rfl, ru⟩ := one_of r
    cases ru with
    | @tup a1 vs1 _ h1 r1 =>
      refine ⟨a1, vs1, rfl, hid_ex.t h1, k _ H1 J ?_⟩
      refine WK.of (walk_enumT (K := X.K) (a := a1) (xs := vs1)) (by rw [enumD_len, r1.length]) (fun H' h => h.t ((T_S ρ1 H1).t h1)) fun i H' v H'' hi h y => ?_
      obtain ⟨t, u1, u2, rfl, ht, rfl, e1, e2⟩ := y
      cases e1
      obtain ⟨d2, q3, q4⟩ := r1.get' e2
      exact ⟨_, enumD_get q3, .inr ⟨t, _, _, ht, rfl, rfl, rfl, .cons (.int _) (.cons q4 .nil)⟩⟩⟩
theorem ci_zipT {xs ys : List D} {elts : List Expr} {kk : Nat} {tpos : Pos} (hm : X.mg "zip" = none) (ha : CE X ρ a (.tup xs) ρ1) (hb : CE X ρ1 b (.tup ys) ρ2) (hg : Gl X "zip" := by rfl)
    (hs : starEach [a, b] X.env = (false, eval a X.env) :: starEach [b] X.env := by rfl) (hpl : (backTo pos (starEach [b] X.env)).any (·.1) = false := by rfl)
    (he2 : starEach [b] X.env = (false, eval b X.env) :: starEach [] X.env := by rfl) : CI X ρ (.Tuple elts kk tpos) (.Call (.Name "zip" p) [a, b] [] pos) (zipD xs ys) ρ2 :=
  ⟨_, RZ.pi_zipA hg hm pa_tw hs hpl, hb.1.trans ha.1, fun F O σ H R I k => (d_cons ha (d_cons hb d_nil he2) hs).2 F O σ H _ I fun vs H1 J r => by
    obtain ⟨v, w, rfl, ru, rw'⟩ := two_of r
    cases ru with
    | @tup a1 vs1 _ h1 r1 =>
      cases rw' with
      | @tup a2 vs2 _ h2 r2 =>
        refine ⟨a1, a2, vs1, vs2, rfl, .inr ⟨hid_ex.t h1, hid_ex.t h2, k _ H1 J ?_⟩⟩
        refine WK.of (walk_zipT (K := X.K) (a := a1) (b := a2) (xs := vs1) (ys := vs2) rfl) (by unfold zipD; rw [List.length_zipWith, r1.length, r2.length]) (fun H' h => ⟨h.t ((T_S ρ2 H1).t h1), h.t ((T_S ρ2 H1).t h2)⟩) fun i H' v H'' hi h y => ?_
        obtain ⟨t, u1, u2, rfl, ht, rfl, e1, e2⟩ := y
        obtain ⟨d1, q1, q2⟩ := r1.get' e1
        obtain ⟨d2, q3, q4⟩ := r2.get' e2
        exact ⟨_, zipD_get q1 q3, .inr ⟨t, _, _, ht, rfl, rfl, rfl, .cons q2 (.cons q4 .nil)⟩⟩⟩

/-! ### isinstance -/
def tyD : D → String
  | .non => "NoneType"
  | .bl _ => "bool"
  | .int _ => "int"
  | .str _ => "str"
  | .tup _ => "tuple"
  | .lst _ => "list"
  | .frl _ => "list"
  | .dic _ => "dict"
  | _ => ""
/-- plain data -/
def plD : D → Bool
  | .ty _ => false
  | .adr _ => false
  | .ins _ _ => false
  | .exc _ _ _ => false
  | _ => true
theorem Rep.tyx {v : V} (r : Rep K H v d) (h : plD d = true) : TyX K H v (.type (tyD d)) := by
  cases r with
  | non => exact .base .non
  | bl b => exact .base (.bl b)
  | int i => exact .base (.int i)
  | str x => exact .base (.str x)
  | ty n => cases h
  | adr a => cases h
  | tup q _ =>
    rcases q with (q | ⟨o, q⟩) | ⟨o, its, n, h1, h2, _⟩
    · exact .base (.tup q)
    · exact .fTuple q
    · exact .kTuple h1 h2
  | lst q _ => exact .base (.lst q)
  | frl q _ =>
    rcases q with (q | ⟨o, q⟩) | ⟨o, its, n, h1, h2, _⟩
    · exact .base (.lst q)
    · exact .base (.frz q)
    · exact .kList h1 h2
  | dic q _ => exact .base (.dK q)
  | ins q _ => cases h
  | exc q _ => cases h
theorem TyX.mono {v : V} {t : Value} (e : Ex H H') (h : TyX K H v t) : TyX K H' v t := by
  cases h with
  | base h =>
    cases h with
    | non => exact .base .non
    | bl b => exact .base (.bl b)
    | int i => exact .base (.int i)
    | str x => exact .base (.str x)
    | flt x => exact .base (.flt x)
    | lst h => exact .base (.lst (e _ _ h))
    | frz h => exact .base (.frz (e _ _ h))
    | tup h => exact .base (.tup (e _ _ h))
    | dK h => exact .base (.dK (e _ _ h))
    | dT h => exact .base (.dT (e _ _ h))
    | ins h a b c d f => exact .base (.ins (e _ _ h) a b c d f)
  | byt b => exact .byt b
  | set h => exact .set (e _ _ h)
  | kList a b => exact .kList a b
  | kTuple a b => exact .kTuple a b
  | kDict a b => exact .kDict a b
  | fTuple h => exact .fTuple (e _ _ h)
  | fDict h => exact .fDict (e _ _ h)
/-- the classes asked for here -/
def isT (n : String) (d : D) : Bool := decide (tyD d = n) || (decide (n = "int") && decide (tyD d = "bool"))
def knownT (n : String) : Bool := ["int", "bool", "str", "tuple", "list", "dict"].contains n
theorem kit_D (h : plD d = true) (n : String) (hn : knownT n = true) : PySem.W.kitOne K (.type (tyD d)) (.type n) = some (isT n d) := by
  have hn' : n = "int" ∨ n = "bool" ∨ n = "str" ∨ n = "tuple" ∨ n = "list" ∨ n = "dict" := by
    unfold knownT at hn
    simp at hn
    exact hn
  rcases hn' with rfl | rfl | rfl | rfl | rfl | rfl <;> (cases d <;> first | rfl | cases h)
theorem c_isi {T : String} (hm : X.mg "isinstance" = none) (ha : CE X ρ a d ρ1) (hb : CE X ρ1 b (.ty T) ρ2) (hd : plD d = true) (hT : knownT T = true) (hg : Gl X "isinstance" := by rfl)
    (hs : starEach [a, b] X.env = (false, eval a X.env) :: starEach [b] X.env := by rfl) (hpl : (backTo pos (starEach [b] X.env)).any (·.1) = false := by rfl)
    (he2 : starEach [b] X.env = (false, eval b X.env) :: starEach [] X.env := by rfl) : CE X ρ (.Call (.Name "isinstance" p) [a, b] [] pos) (.bl (isT T d)) ρ2 :=
  c_blt call_isi (fun F O ρ σ H vs Q I r q => by
    obtain ⟨v, w, rfl, r1, r2⟩ := two_of r
    cases r2
    exact ⟨v, .ty T, _, _, _, rfl, .ty T, (r1.mono hid_ex).tyx hd, kit_D hd T hT, q _ _ I (.bl _)⟩) hm (by decide +kernel) (d_cons ha (d_cons hb d_nil he2) hs) hg (he := hs) (hpl := hpl)
/-- isinstance(x, (T, U)) -/
theorem c_isi2 {T U : String} {tpos : Pos} {kk : Nat} (hm : X.mg "isinstance" = none) (ha : CE X ρ a d ρ1) (hb : CE X ρ1 b (.ty T) ρ1) (hc : CE X ρ1 c (.ty U) ρ1) (hd : plD d = true) (hT : knownT T = true) (hU : knownT U = true) (hg : Gl X "isinstance" := by rfl)
    (hs : starEach [a, .Tuple [b, c] kk tpos] X.env = (false, eval a X.env) :: starEach [.Tuple [b, c] kk tpos] X.env := by rfl) (hpl : (backTo pos (starEach [.Tuple [b, c] kk tpos] X.env)).any (·.1) = false := by rfl)
    (he2 : starEach [.Tuple [b, c] kk tpos] X.env = (false, eval (.Tuple [b, c] kk tpos) X.env) :: starEach [] X.env := by rfl)
    (he3 : starEach [b, c] X.env = (false, eval b X.env) :: starEach [c] X.env := by rfl) (he4 : starEach [c] X.env = (false, eval c X.env) :: starEach [] X.env := by rfl) :
    CE X ρ (.Call (.Name "isinstance" p) [a, .Tuple [b, c] kk tpos] [] pos) (.bl (isT T d || isT U d)) ρ1 :=
  .of (pe_callB call_isiT hg hm (by decide +kernel) (pa_cons pe_tw (pa_cons (pe_tup (pa_cons pe_tw (pa_cons pe_tw pa_nil he4) he3)) pa_nil he2) hs) (by decide) (by decide) hs hpl) ⟨ha.1, fun F O σ H Q I q => by
    refine ha.2 F O σ H _ I fun v H1 J r => hb.2 _ O σ H1 _ J.sup fun w H2 L r2 => hc.2 _ O σ H2 _ L.sup fun u H3 M r3 => ⟨(show 2 ≤ sizeLine by decide), fun t ht => ?_⟩
    cases r2
    cases r3
    have M' := (M.weak L.le_sup L.od).weak J.le_sup J.od
    have r' : Rep X.K (hid (UU O ρ1) H3) v d := SOk.keep rfl M (SOk.keep rfl L r)
    have kt : PySem.W.kitAny X.K (.type (tyD d)) [.type T, .type U] = some (isT T d || isT U d) := by
      unfold PySem.W.kitAny
      rw [kit_D hd T hT]
      cases isT T d with
      | true => rfl
      | false =>
        unfold PySem.W.kitAny
        rw [kit_D hd U hU]
        cases isT U d with
        | true => rfl
        | false => rfl
    have M2 := M'.new (o := .tup [.ty T, .ty U]) ht
    exact ⟨v, t, _, _, _, _, rfl, upd_same, .cons (.ty T) (.cons (.ty U) .nil), TyX.mono (fun a o h => by rw [upd_ne (ne_of_none h ht)]; exact h) ((r'.mono hid_ex).tyx hd), kt, q _ _ M2 (.bl _)⟩⟩

/-! ### == at any depth -/
mutual
def pyd : D → PyData
  | .non => .none
  | .bl b => .bool b
  | .int i => .int i
  | .str x => .str x
  | .tup l => .tuple (pyds l)
  | .lst l => .list (pyds l)
  | _ => .dict []
def pyds : List D → List PyData
  | [] => []
  | d :: l => pyd d :: pyds l
end
mutual
/-- what == reads -/
def eqD : D → Bool
  | .non => true
  | .bl _ => true
  | .int _ => true
  | .str _ => true
  | .tup l => eqDs l
  | .lst l => eqDs l
  | _ => false
def eqDs : List D → Bool
  | [] => true
  | d :: l => eqD d && eqDs l
end
mutual
theorem Rep.dp : ∀ (d : D) (v : V), eqD d = true → Rep K H v d → Dp K H v (pyd d)
  | .non, _, _, r => by cases r; exact .non
  | .bl b, _, _, r => by cases r; exact .bl b
  | .int i, _, _, r => by cases r; exact .int i
  | .str x, _, _, r => by cases r; exact .str x
  | .tup l, _, h, r => by cases r with | tup q r => exact .tup q (Reps.dp l _ h r)
  | .lst l, _, h, r => by cases r with | lst q r => exact .lst (.of q) (Reps.dp l _ h r)
  | .frl _, _, h, _ => Bool.noConfusion (show false = true from h)
  | .dic _, _, h, _ => Bool.noConfusion (show false = true from h)
  | .ty _, _, h, _ => Bool.noConfusion (show false = true from h)
  | .adr _, _, h, _ => Bool.noConfusion (show false = true from h)
  | .ins _ _, _, h, _ => Bool.noConfusion (show false = true from h)
theorem Reps.dp : ∀ (d : List D) (v : List V), eqDs d = true → Reps K H v d → DpAll K H v (pyds d)
  | [], _, _, r => by cases r; exact .nil
  | d :: l, _, h, r => by
    cases r with
    | cons q r =>
      have h' : (eqD d && eqDs l) = true := h
      rw [Bool.and_eq_true] at h'
      exact .cons (Rep.dp d _ h'.1 q) (Reps.dp l _ h'.2 r)
end
theorem opd_eqD (hx : eqD x = true) (hy : eqD y = true) (sx : SeqAt.shaped (pyd x) = true) (sy : SeqAt.shaped (pyd y) = true) : OpD K (rEqD K) x y (.bl (PyData.eqv (pyd x) (pyd y))) := fun F O ρ σ H v w Q I r1 r2 q =>
  ⟨_, _, Rep.dp _ _ hx (r1.mono hid_ex), Rep.dp _ _ hy (r2.mono hid_ex), sx, sy, q _ _ I (.bl _)⟩
theorem opd_neD (hx : eqD x = true) (hy : eqD y = true) (sx : SeqAt.shaped (pyd x) = true) (sy : SeqAt.shaped (pyd y) = true) : OpD K (rNeD K) x y (.bl (!PyData.eqv (pyd x) (pyd y))) := fun F O ρ σ H v w Q I r1 r2 q =>
  ⟨_, _, Rep.dp _ _ hx (r1.mono hid_ex), Rep.dp _ _ hy (r2.mono hid_ex), sx, sy, q _ _ I (.bl _)⟩
theorem c_eqD (hu : X.A.units + 64 < cLine) (ha : CE X ρ a x ρ1) (hb : CE X ρ1 b y ρ2) (hx : eqD x = true) (hy : eqD y = true) (sx : SeqAt.shaped (pyd x) = true) (sy : SeqAt.shaped (pyd y) = true) : CE X ρ (.Compare a [.Eq] [b] pos) (.bl (PyData.eqv (pyd x) (pyd y))) ρ2 := c_cmp (op_eqD hu) (opd_eqD hx hy sx sy) ha hb (nomark _)
theorem c_neD (hu : X.A.units + 64 < cLine) (ha : CE X ρ a x ρ1) (hb : CE X ρ1 b y ρ2) (hx : eqD x = true) (hy : eqD y = true) (sx : SeqAt.shaped (pyd x) = true) (sy : SeqAt.shaped (pyd y) = true) : CE X ρ (.Compare a [.NotEq] [b] pos) (.bl (!PyData.eqv (pyd x) (pyd y))) ρ2 := c_cmp (op_neD hu) (opd_neD hx hy sx sy) ha hb (nomark _)
theorem t_eqD (hu : X.A.units + 64 < cLine) (ha : CE X ρ a x ρ1) (hb : CE X ρ1 b y ρ2) (hx : eqD x = true) (hy : eqD y = true) (sx : SeqAt.shaped (pyd x) = true) (sy : SeqAt.shaped (pyd y) = true) : CT X ρ (.Compare a [.Eq] [b] pos) (PyData.eqv (pyd x) (pyd y)) ρ2 := t_cmp (op_eqD hu) (opd_eqD hx hy sx sy) ha hb (nomark _)
theorem t_neD (hu : X.A.units + 64 < cLine) (ha : CE X ρ a x ρ1) (hb : CE X ρ1 b y ρ2) (hx : eqD x = true) (hy : eqD y = true) (sx : SeqAt.shaped (pyd x) = true) (sy : SeqAt.shaped (pyd y) = true) : CT X ρ (.Compare a [.NotEq] [b] pos) (!PyData.eqv (pyd x) (pyd y)) ρ2 := t_cmp (op_neD hu) (opd_neD hx hy sx sy) ha hb (nomark _)
end
end VL
end

section
set_option Elab.async false
set_option linter.all false
set_option maxRecDepth 100000
set_option maxHeartbeats 4000000
namespace VL
open PySem PySem.Spec PyProof.Rows L2
section
variable {X : Cx} {e a b c tg : Expr} {es : List Expr} {ρ ρ1 ρ2 ρ3 ρ' : Lo} {x y z d : D} {pos p p2 : Pos} {F F' : Hp} {O : Addr → Prop} {σ : L2.St} {H H' S T : Hp} {i j : Nat} {n m : Str} {ds es' : List D} {q : Addr} {K : PySem.W.Frag} {W : WE} {rest : List Stmt}
/-- behind a new list another expression; then the list is a slot's own -/
theorem after_new {e : Expr} {vs : List V} {H1 : Hp} (J : SOk X.K F O ρ1 σ H1) (hp : H1 q = none) (r : Reps X.K (hid (UU O ρ1) H1) vs ds) (hb : CE X ρ1 b y ρ2) {Q : V → Hp → Prop}
    (k : ∀ w H2, SOk X.K F O ρ2 σ (delH H2 q) → delH H2 q q = none → Reps X.K (hid (UU O ρ2) (delH H2 q)) vs ds → Rep X.K (hid (UU O ρ2) (delH H2 q)) w y → H2 q = some (.lst vs) → (∀ v d, Rep X.K (hid (UU O ρ1) H1) v d → Rep X.K (hid (UU O ρ2) (delH H2 q)) v d) → Q w H2) : tw X b σ (upd H1 q (.lst vs)) Q := by
  have J1 : SOk X.K (upd (VL.sup ρ1 H1) q (.lst vs)) (orA O q) ρ1 σ (upd H1 q (.lst vs)) := J.sup.orNew hp
  have nS : VL.sup ρ1 H1 q = none := by
    cases zz : VL.sup ρ1 H1 q with
    | none => rfl
    | some o =>
      have := hid_ex q o zz
      rw [hp] at this
      cases this
  refine hb.2 _ _ σ _ _ J1 fun w H2 L rw' => ?_
  obtain ⟨K1, K2⟩ := L.orDel nS J.sup.od
  have hq2 : H2 q = some (.lst vs) := L.fr q _ upd_same
  have rw2 : Rep X.K (hid (UU O ρ2) (delH H2 q)) w y := rw'.mono (ex_hid fun a u _ nn h => by
    have nq : a ≠ q := fun e => nn (.inl (.inr e))
    exact ⟨fun zz => nn (zz.elim (fun zz => .inl (.inl zz)) .inr), by rw [delH_ne nq]; exact h⟩)
  have ex : Ex (hid (UU O ρ1) H1) (hid (UU O ρ2) (delH H2 q)) := ex_hid fun a u _ nn h => ⟨fun zz => nn (by
    unfold UU at zz ⊢
    rw [← hb.1]
    exact zz), K1.fr a u (hid_of (fun zz => nn (.inr zz)) h)⟩
  exact k w H2 (K1.weak J.le_sup J.od) delH_same (r.mono ex) rw2 hq2 fun v d r => r.mono ex
/-- a, b = [..], y -/
theorem css_parN (i j : Nat) {px py pt pt2 : Pos} {kt k2} (B : Bd X) (ha : CN X ρ a ds ρ1) (hb : CE X ρ1 b y ρ2) (k : ∀ q, CSs X ((ρ2.set i (.mut q ds)).set j (.dat y)) rest W) (hl : i < ρ2.length := by first | decide | simp) (hij : i ≠ j := by decide) (hi : X.N[i]? = some n := by rfl) (hj : X.N[j]? = some m := by rfl)
    (hx : X.env.scope.names.lookup n = some .local := by rfl) (hy : X.env.scope.names.lookup m = some .local := by rfl)
    (hw : swappedStores [.Tuple [.Name n px, .Name m py] kt pt] (.Tuple [a, b] k2 pt2) X.env = pure (some [n, m]) := by rfl)
    (hs : swapsWithSole [.Tuple [.Name n px, .Name m py] kt pt] (.Tuple [a, b] k2 pt2) pos.line X.env = pure false := by rfl)
    (he : starEach [a, b] X.env = (false, eval a X.env) :: starEach [b] X.env := by rfl) (he2 : starEach [b] X.env = (false, eval b X.env) :: starEach [] X.env := by rfl) : CSs X ρ (.Assign [.Tuple [.Name n px, .Name m py] kt pt] (.Tuple [a, b] k2 pt2) pos :: rest) W :=
  css_of (ps_par B.calm B.nd hi hj hij hx hy (pa_cons pe_tw (pa_cons pe_tw pa_nil he2) he) hw hs) fun F O σ H E I r => ha.2 F O σ H _ I fun q vs H1 J hp rv =>
    after_new (e := a) J hp rv hb fun w H2 L hq rs rw' hq2 _ => by
      refine ⟨.ref q, w, rfl, r.nx _ _ _ (k q) ?_⟩
      have M := L.own1 hq rs hl
      rw [upd_delH hq2] at M
      refine M.set (rw'.mono (ex_hid fun a o _ nn h => ⟨fun zz => ?_, ?_⟩))
      · rcases zz with zz | ⟨es, zz⟩
        · exact nn (.inl zz)
        · rcases List.mem_or_eq_of_mem_set zz with zz | zz
          · exact nn (.inr ⟨es, zz⟩)
          · cases zz
            rw [hq] at h
            cases h
      · have na : a ≠ q := fun e => by
          subst e
          rw [hq] at h
          cases h
        rw [delH_ne na] at h
        exact h
/-- a, b, c = x, [..], z -/
theorem css_par3N (i j l : Nat) {m2 : Str} {px py pz pt pt2 : Pos} {kt k2} (B : Bd X) (ha : CE X ρ a x ρ1) (hb : CN X ρ1 b ds ρ2) (hc : CE X ρ2 c z ρ3) (k : ∀ q, CSs X (((ρ3.set i (.dat x)).set j (.mut q ds)).set l (.dat z)) rest W) (hlt : j < ρ3.length := by first | decide | simp) (hij : i ≠ j := by decide) (hil : i ≠ l := by decide) (hjl : j ≠ l := by decide)
    (hi : X.N[i]? = some n := by rfl) (hj : X.N[j]? = some m := by rfl) (hl : X.N[l]? = some m2 := by rfl)
    (hx : X.env.scope.names.lookup n = some .local := by rfl) (hy : X.env.scope.names.lookup m = some .local := by rfl) (hz : X.env.scope.names.lookup m2 = some .local := by rfl)
    (hw : swappedStores [.Tuple [.Name n px, .Name m py, .Name m2 pz] kt pt] (.Tuple [a, b, c] k2 pt2) X.env = pure (some [n, m, m2]) := by rfl)
    (hs : swapsWithSole [.Tuple [.Name n px, .Name m py, .Name m2 pz] kt pt] (.Tuple [a, b, c] k2 pt2) pos.line X.env = pure false := by rfl)
    (he : starEach [a, b, c] X.env = (false, eval a X.env) :: starEach [b, c] X.env := by rfl) (he2 : starEach [b, c] X.env = (false, eval b X.env) :: starEach [c] X.env := by rfl) (he3 : starEach [c] X.env = (false, eval c X.env) :: starEach [] X.env := by rfl) :
    CSs X ρ (.Assign [.Tuple [.Name n px, .Name m py, .Name m2 pz] kt pt] (.Tuple [a, b, c] k2 pt2) pos :: rest) W :=
  css_of (ps_par3 B.calm B.nd hi hj hl hij hil hjl hx hy hz (pa_cons pe_tw (pa_cons pe_tw (pa_cons pe_tw pa_nil he3) he2) he) hw hs) fun F O σ H E I r => ha.2 F O σ H _ I fun v H0 I0 r0 => hb.2 _ O σ H0 _ I0.sup fun q vs H1 J hp rv => by
    have r1 := SOk.keep hb.1 J r0
    have J' := J.weak I0.le_sup I0.od
    refine after_new (e := a) J' hp rv (hb := hc) fun w H2 L hq rs rw' hq2 hk => ?_
    refine ⟨v, .ref q, w, rfl, r.nx _ _ _ (k q) ?_⟩
    have exS : ∀ {ρ : Lo} {i : Nat} {d : D} {H : Hp}, Ex (hid (UU O ρ) H) (hid (UU O (ρ.set i (.dat d))) H) := fun {ρ i d H} => ex_hid fun a o _ nn h => ⟨fun z => nn (UU_set datNe z), h⟩
    have M0 := L.set (i := i) (hk v x r1)
    have M1 := M0.own1 (i := j) hq (rs.mono (exS (i := i) (d := x))) (by rw [List.length_set]; exact hlt)
    rw [upd_delH hq2] at M1
    refine M1.set ((rw'.mono (exS (i := i) (d := x))).mono (ex_hid fun a o _ nn h => ⟨fun zz => ?_, ?_⟩))
    · rcases zz with zz | ⟨es, zz⟩
      · exact nn (.inl zz)
      · rcases List.mem_or_eq_of_mem_set zz with zz | zz
        · exact nn (.inr ⟨es, zz⟩)
        · cases zz
          rw [hq] at h
          cases h
    · have na : a ≠ q := fun e => by
        subst e
        rw [hq] at h
        cases h
      rw [delH_ne na] at h
      exact h
/-! ### a comprehension of pure elements -/
variable {elt iter cond : Expr} {scope : Scope} {own : List (Str × Nat)}
/-- no own list turns: each item d of the walk gives f d -/
theorem l_lc0 {T : Tg} (f : D → D) (hi : CI X ρ tg iter ds ρ1) (own : List (Str × Nat)) (B : Bd X) (ok : BlkOk X.N X.env.scope scope own) (hg : InB X scope fun Y => PG Y tg (gOf X.K T)) (hT : ∀ k ∈ T.slots, k ∈ own.map (·.2)) (hn : noMut ρ1 (own.map (·.2)))
    (hs : ∀ (i : Nat) d, ds[i]? = some d → ∃ ρ2, Bind T d (wipeL ρ1 (own.map (·.2))) ρ2 ∧ (∀ (k : Nat) p es, ρ1[k]? = some (.mut p es) → ρ2[k]? = some (.mut p es)) ∧ InB X scope fun Y => CE Y ρ2 elt (f d) ρ2)
    (hl : ds.length < sizeLine) (hfs : ∀ x, foldedSetIterable iter X.env x = pure x := by intro _; rfl) : CL X ρ elt tg iter [] scope (ds.map f) ρ1 := by
  refine l_lcG (T := T) (tt := tYes) (fun i ρi acc => ρi = ρ1 ∧ acc = (ds.take i).map f) B.calm B.nd hi ok hg (fun _ _ _ _ _ => pts_nil) hT hn ⟨rfl, rfl⟩ (fun i d ρi acc hd _ hJ => ?_) (fun ρn acc _ hJ => ⟨hJ.1, by rw [hJ.2, List.take_length]⟩) rfl hfs
  obtain ⟨rfl, rfl⟩ := hJ
  obtain ⟨ρ2, hb, hm, he⟩ := hs i d hd
  have hlt := (List.getElem?_eq_some_iff.mp hd).1
  refine ⟨ρ2, true, ρ2, hb, ⟨rfl, fun F O σ H Q I q => q H I⟩, fun _ => ⟨f d, ρ2, ρi, ev_twB he rfl, Like.refl, hm, ?_, rfl, ?_⟩, fun h => Bool.noConfusion h⟩
  · rw [List.length_map, List.length_take]
    omega
  · rw [List.take_add_one, hd, List.map_append]
    rfl
/-- .. with a test -/
theorem l_lc1 {T : Tg} (f : D → D) (g : D → Bool) (hi : CI X ρ tg iter ds ρ1) (own : List (Str × Nat)) (B : Bd X) (ok : BlkOk X.N X.env.scope scope own) (hg : InB X scope fun Y => PG Y tg (gOf X.K T)) (hT : ∀ k ∈ T.slots, k ∈ own.map (·.2)) (hn : noMut ρ1 (own.map (·.2)))
    (hs : ∀ (i : Nat) d, ds[i]? = some d → ∃ ρ2, Bind T d (wipeL ρ1 (own.map (·.2))) ρ2 ∧ (∀ (k : Nat) p es, ρ1[k]? = some (.mut p es) → ρ2[k]? = some (.mut p es)) ∧ (InB X scope fun Y => CT Y ρ2 cond (g d) ρ2) ∧ (g d = true → InB X scope fun Y => CE Y ρ2 elt (f d) ρ2))
    (hl : ds.length < sizeLine) (hfs : ∀ x, foldedSetIterable iter X.env x = pure x := by intro _; rfl) : CL X ρ elt tg iter [cond] scope ((ds.filter g).map f) ρ1 := by
  refine l_lcG (T := T) (tt := twTB X scope cond) (fun i ρi acc => ρi = ρ1 ∧ acc = ((ds.take i).filter g).map f) B.calm B.nd hi ok hg (fun _ _ _ _ _ => pts_one pt_twB) hT hn ⟨rfl, rfl⟩ (fun i d ρi acc hd _ hJ => ?_) (fun ρn acc _ hJ => ⟨hJ.1, by rw [hJ.2, List.take_length]⟩) rfl hfs
  obtain ⟨rfl, rfl⟩ := hJ
  obtain ⟨ρ2, hb, hm, hc, he⟩ := hs i d hd
  have hlt := (List.getElem?_eq_some_iff.mp hd).1
  have step : (ds.take (i + 1)).filter g = (ds.take i).filter g ++ (if g d then [d] else []) := by
    rw [List.take_add_one, hd, List.filter_append]
    congr 1
    cases h : g d <;> simp [h]
  refine ⟨ρ2, g d, ρ2, hb, et_twB hc rfl, fun h => ⟨f d, ρ2, ρi, ev_twB (he h) rfl, Like.refl, hm, ?_, rfl, ?_⟩, fun h => ⟨ρi, Like.refl, hm, rfl, ?_⟩⟩
  · rw [List.length_map]
    refine Nat.lt_of_le_of_lt (List.length_filter_le _ _) ?_
    rw [List.length_take]
    omega
  · rw [step, h, List.map_append]
    rfl
  · rw [step, h]
    simp
theorem n_lc0 {T : Tg} (f : D → D) (hi : CI X ρ tg iter ds ρ1) (own : List (Str × Nat)) (B : Bd X) (ok : BlkOk X.N X.env.scope scope own) (hg : InB X scope fun Y => PG Y tg (gOf X.K T)) (hT : ∀ k ∈ T.slots, k ∈ own.map (·.2)) (hn : noMut ρ1 (own.map (·.2)))
    (hs : ∀ (i : Nat) d, ds[i]? = some d → ∃ ρ2, Bind T d (wipeL ρ1 (own.map (·.2))) ρ2 ∧ (∀ (k : Nat) p es, ρ1[k]? = some (.mut p es) → ρ2[k]? = some (.mut p es)) ∧ InB X scope fun Y => CE Y ρ2 elt (f d) ρ2)
    (hl : ds.length < sizeLine) (hfs : ∀ x, foldedSetIterable iter X.env x = pure x := by intro _; rfl) : CN X ρ (.ListComp elt [⟨tg, iter, [], 0⟩] scope pos) (ds.map f) ρ1 := (l_lc0 f hi own B ok hg hT hn hs hl hfs).cn
theorem n_lc1 {T : Tg} (f : D → D) (g : D → Bool) (hi : CI X ρ tg iter ds ρ1) (own : List (Str × Nat)) (B : Bd X) (ok : BlkOk X.N X.env.scope scope own) (hg : InB X scope fun Y => PG Y tg (gOf X.K T)) (hT : ∀ k ∈ T.slots, k ∈ own.map (·.2)) (hn : noMut ρ1 (own.map (·.2)))
    (hs : ∀ (i : Nat) d, ds[i]? = some d → ∃ ρ2, Bind T d (wipeL ρ1 (own.map (·.2))) ρ2 ∧ (∀ (k : Nat) p es, ρ1[k]? = some (.mut p es) → ρ2[k]? = some (.mut p es)) ∧ (InB X scope fun Y => CT Y ρ2 cond (g d) ρ2) ∧ (g d = true → InB X scope fun Y => CE Y ρ2 elt (f d) ρ2))
    (hl : ds.length < sizeLine) (hfs : ∀ x, foldedSetIterable iter X.env x = pure x := by intro _; rfl) : CN X ρ (.ListComp elt [⟨tg, iter, [cond], 0⟩] scope pos) ((ds.filter g).map f) ρ1 := (l_lc1 f g hi own B ok hg hT hn hs hl hfs).cn
/-- name = [..] -/
theorem css_lc (i : Nat) {y : Str} {py pos spos : Pos} {ifs : List Expr} (h : CL X ρ elt tg iter ifs scope ds ρ1) (k : ∀ q, CSs X (ρ1.set i (.mut q ds)) rest W) (hl : i < ρ1.length := by first | decide | simp) (hi : X.N[i]? = some y := by rfl) (hx : X.env.scope.names.lookup y = some .local := by rfl)
    (hk : X.env.scope.kind = .function := by rfl) (hli : (py.line == pos.line) = true := by rfl) (ha : (scope.names.any fun (n, k) => n == y && (k == .local || k == .cell)) = false := by rfl) : CSs X ρ (.Assign [.Name y py] (.ListComp elt [⟨tg, iter, ifs, 0⟩] scope pos) spos :: rest) W := by
  obtain ⟨tl, _, h2, h3⟩ := h.ex
  exact css_of (h2 i y py pos spos hi hx (sw_true hk hx hli ha)) fun F O σ H E I r => h3.2 F O σ H _ I fun q vs H1 J hp rv => r.nx _ _ _ (k q) (J.own1 hp rv hl)
theorem css_lcF (i : Nat) {y : Str} {py pos spos : Pos} {ifs : List Expr} (h : CL X ρ elt tg iter ifs scope ds ρ1) (k : CSs X (ρ1.set i (.dat (.lst ds))) rest W) (hi : X.N[i]? = some y := by rfl) (hx : X.env.scope.names.lookup y = some .local := by rfl)
    (hk : X.env.scope.kind = .function := by rfl) (hli : (py.line == pos.line) = true := by rfl) (ha : (scope.names.any fun (n, k) => n == y && (k == .local || k == .cell)) = false := by rfl) : CSs X ρ (.Assign [.Name y py] (.ListComp elt [⟨tg, iter, ifs, 0⟩] scope pos) spos :: rest) W := by
  obtain ⟨tl, _, h2, h3⟩ := h.ex
  exact css_of (h2 i y py pos spos hi hx (sw_true hk hx hli ha)) fun F O σ H E I r => h3.2 F O σ H _ I fun q vs H1 J hp rv => r.nx _ _ _ k ((J.new hp).set (.lst (J.newHid hp) (rv.mono (ex_new hp))))
end
/-! ### targets by names -/
section
variable {X : Cx} {i : Nat} {n : Str} {p : Pos} {K : PySem.W.Frag}
theorem tg_nm (i : Nat) (nd : X.N.Nodup) (hi : X.N[i]? = some n := by rfl) (hx : Loc X.env.scope n := by first | exact Or.inl rfl | exact Or.inr rfl) (hf : X.fn n = true ∨ X.env.scope.names.lookup n = some .local := by first | exact .inl rfl | exact .inr rfl) : PG X (.Name n p) (gOf X.K (.nm i)) := pg_name nd hi hx hf
theorem tgs_nil : PGs X [] (gsOf K []) := pgs_nil
theorem tgs_cons {e : Expr} {es : List Expr} {T : Tg} {l : List Tg} (h : PG X e (gOf K T)) (hr : PGs X es (gsOf K l)) (hs : (assignEach (e :: es) X.env).map (·.2) = assign e X.env :: (assignEach es X.env).map (·.2) := by rfl) : PGs X (e :: es) (gsOf K (T :: l)) := pgs_cons h hr hs
theorem tg_tp {es : List Expr} {k : Nat} {l : List Tg} (hc : X.calm = true) (h : PGs X es (gsOf X.K l)) (hn : (assignEach es X.env).length = l.length := by rfl) (hst : (assignEach es X.env).findIdx? (·.1) = none := by rfl) : PG X (.Tuple es k p) (gOf X.K (.tp l)) := pg_tup hc h hn hst
end
end VL
namespace VL
open PySem PySem.Spec PyProof.Rows L2
theorem enumD_inv {xs : List D} {i : Nat} {d : D} (h : (enumD xs)[i]? = some d) : ∃ x, xs[i]? = some x ∧ d = .tup [.int (i : Nat), x] := by
  have hi : i < xs.length := by
    have := (List.getElem?_eq_some_iff.mp h).1
    rw [enumD_len] at this
    exact this
  refine ⟨xs[i], List.getElem?_eq_getElem hi, ?_⟩
  rw [enumD_get (List.getElem?_eq_getElem hi)] at h
  exact (Option.some.inj h).symm
theorem rangeD_inv {lo : Int} {n i : Nat} {d : D} (h : (rangeD lo n)[i]? = some d) : i < n ∧ d = .int (lo + (i : Nat)) := by
  have hi : i < n := by
    have := (List.getElem?_eq_some_iff.mp h).1
    rw [rangeD_len] at this
    exact this
  rw [rangeD_get hi] at h
  exact ⟨hi, (Option.some.inj h).symm⟩
theorem rangeDn_inv {lo : Int} {n i : Nat} {d : D} (h : (rangeDn lo n)[i]? = some d) : i < n ∧ d = .int (lo - (i : Nat)) := by
  have hi : i < n := by
    have := (List.getElem?_eq_some_iff.mp h).1
    rw [rangeDn_len] at this
    exact this
  rw [rangeDn_get hi] at h
  exact ⟨hi, (Option.some.inj h).symm⟩
theorem zipD_inv {xs ys : List D} {i : Nat} {d : D} (h : (zipD xs ys)[i]? = some d) : ∃ x y, xs[i]? = some x ∧ ys[i]? = some y ∧ d = .tup [x, y] := by
  unfold zipD at h
  rw [List.getElem?_zipWith] at h
  cases h1 : xs[i]? with
  | none => rw [h1] at h; cases h
  | some x =>
    cases h2 : ys[i]? with
    | none => rw [h1, h2] at h; cases h
    | some y =>
      rw [h1, h2] at h
      exact ⟨x, y, rfl, rfl, (Option.some.inj h).symm⟩
theorem atI_i {xs : List D} {k : Nat} {i : Int} {d : D} (hi : i = (k : Nat)) (h : xs[k]? = some d) : atI xs i = some d := by
  subst hi
  exact atI_nat h
theorem at_ints {ns : List Int} {k : Nat} {n : Int} (h : ns[k]? = some n) : (ns.map D.int)[k]? = some (.int n) := by
  rw [List.getElem?_map, h]
  rfl
theorem sz {n : Nat} (h : n ≤ 100000) : n ≤ sizeLine := Nat.le_trans h (by decide)
theorem szl {n : Nat} (h : n < 100000) : n < sizeLine := Nat.lt_of_lt_of_le h (by decide)
theorem flat1 (d : D) : ∀ n : Nat, (List.replicate n [d]).flatten = List.replicate n d
  | 0 => rfl
  | n + 1 => by rw [List.replicate_succ, List.flatten_cons, flat1 d n, List.replicate_succ]; rfl
theorem ixN_nat {n k : Nat} {i : Int} (hi : i = (k : Nat)) (h : k < n) : ixN n i = some k := by
  subst hi
  unfold ixN
  rw [if_pos (by omega), if_pos (by omega), Int.toNat_natCast]
section
variable {X : Cx} {e : Expr} {es : List Expr} {ρ ρ1 : Lo} {pos p : Pos} {n x : Str} {ds : List D} {W : WE} {rest : List Stmt} {r : Res} {k i : Nat}
/-- a call of one result, maybe an error -/
theorem q_callD {A : List D → Res → Prop} (Fn : FnV X.prog X.w X.K X.mg X.base k x (detS A)) (hr : Room k X.A) (ha : CD X ρ (e :: es) ds ρ1) (hA : A ds r) (hg : Gl X x := by rfl) (hdb : (x == ("__debug__" : Str)) = false := by decide)
    (he : starEach (e :: es) X.env = (false, eval e X.env) :: starEach es X.env := by rfl) (hpl : (backTo pos (starEach es X.env)).any (·.1) = false := by rfl) : ∀ R : Res → Lo → Prop, R r ρ1 → CQ X ρ (.Call (.Name x p) (e :: es) [] pos) R :=
  fun R h => q_call Fn hr ha ⟨ds, r, rfl, hA, rfl, h⟩ hg hdb he hpl
theorem css_exprR (q : ∀ R : Res → Lo → Prop, R r ρ1 → CQ X ρ e R) (h1 : ∀ d, r = .ok d → CSs X ρ1 rest W) (h2 : ∀ er, r = .error er → W.er er ρ1) (hs : swapsWith e none pos.line X.env = pure false := by rfl) : CSs X ρ (.Expr e pos :: rest) W :=
  css_exprQ (q _ (by cases r with | ok d => exact h1 d rfl | error er => exact h2 er rfl)) hs
theorem css_retR (q : ∀ R : Res → Lo → Prop, R r ρ1 → CQ X ρ e R) (h1 : ∀ d, r = .ok d → W.rt d ρ1) (h2 : ∀ er, r = .error er → W.er er ρ1) : CSs X ρ (.Return (some e) pos :: rest) W :=
  css_retQ (q _ (by cases r with | ok d => exact h1 d rfl | error er => exact h2 er rfl))
theorem css_asgR (i : Nat) (B : Bd X) (q : ∀ R : Res → Lo → Prop, R r ρ1 → CQ X ρ e R) (h1 : ∀ d, r = .ok d → CSs X (ρ1.set i (.dat d)) rest W) (h2 : ∀ er, r = .error er → W.er er ρ1) (hi : X.N[i]? = some n := by rfl) (hx : Loc X.env.scope n := by first | exact Or.inl rfl | exact Or.inr rfl)
    (hs : swapsWith e (some (.Name n p)) pos.line X.env = pure false := by rfl) (hf : X.fn n = true ∨ X.env.scope.names.lookup n = some .local := by first | exact .inl rfl | exact .inr rfl) : CSs X ρ (.Assign [.Name n p] e pos :: rest) W :=
  css_asgQ i B (q _ (by cases r with | ok d => exact h1 d rfl | error er => exact h2 er rfl)) hi hx hs hf
end
end VL
end

section
set_option Elab.async false
set_option linter.all false
set_option maxRecDepth 100000
set_option maxHeartbeats 4000000
/-! while an exception is handled: walks over lists, tuples taken apart, comprehensions -/
namespace VLH
open PySem PySem.Spec PyProof.Rows L2 HotX VL
open L2H (HotC TurnH PIH PIEH HotC.at)
section
variable {prog : Program} {w : World} {A : Around} {E : Value → Shared → Prop} {s : Shared}
theorem hot_but {x1 it : Addr} {h h' : Heap} (hot : HotAt A x1 h) (hs : Heap.ExtBut it h h') (hne : x1 ≠ it) : HotAt A x1 h' := by
  obtain ⟨hh, o1, vs1, h1, d1, c1⟩ := hot
  exact ⟨hh, o1, vs1, hs _ _ hne h1, d1, c1⟩
theorem next_list_end_hot {it l x1 : Addr} {i : Nat} {items} {Q : Option Value → Shared → Prop} (hot : HotAt A x1 s.heap)
    (hit : s.heap.IsListIter it l i) (hl : s.heap.IsList l items) (hx : items[i]? = none)
    (hQ : ∀ h', Heap.ExtBut it s.heap h' → Q none { s with heap := h' }) : wpAny (model prog w) A (pyNext (.ref it)) Q E s := by
  obtain ⟨o, ho, hc, hd⟩ := id hit
  obtain ⟨ol, hol, _, nl, hdl⟩ := hl
  have hne : x1 ≠ it := fun z => by
    obtain ⟨hh, o1, vs1, h1, d1, c1⟩ := hot
    rw [z, ho] at h1
    cases h1
    rw [hd] at d1
    cases d1
    simp at c1
  unfold pyNext
  refine wpAny_bind (wpAny_attempt (wpAny_callSpecial?_slot (name := Str.ofString "__next__") hit.typeIs slot_listiter_next
    (wpAny_call_entry slot_listiter_next hit.typeIs entry_listiter_next ?_ (args_listiter_next _))))
  show wpAny _ _ (field (.ref it) 0 >>= _) _ _ s
  refine wpAny_bind (wpAny_field ho hd (x := .ref l) rfl ?_)
  show wpAny _ _ (if (Value.ref l == Value.none) = true then _ else _) _ _ s
  rw [if_neg (show ¬ ((Value.ref l == Value.none) = true) from Bool.false_ne_true)]
  show wpAny _ _ (field (.ref it) 1 >>= _) _ _ s
  refine wpAny_bind (wpAny_field ho hd (x := .int i 0) rfl ?_)
  show wpAny _ _ (seqItems? (.ref l) >>= _) _ _ s
  refine wpAny_bind (wpAny_seqItems hol hdl ?_)
  simp only [Int.toNat_natCast, hx]
  refine wpAny_bind (wpAny_rule (wpAny_bind (wpAny_setField ho hd (by simp) ?_)))
  obtain ⟨hh, o1, vs1, h1, d1, c1⟩ := hot_but hot (Heap.SameBut.update s.heap it _).extBut hne
  show wpAny _ _ (newExc (.type "StopIteration") [] >>= _) _ _ _
  refine wpAny_bind ?_
  simp only [newExc, newTuple]
  refine wpAny_bind (wpAny_newObj_type ?_ (by size_fits))
  refine wpAny_bind (m := firstArgMember _ _) (wpAny_of_eq (a := Value.none) (by first | rfl | (simp only [firstArgMember]; rfl)) ?_)
  refine wpAny_newObj_type ?_ (by size_fits)
  refine raiseNew_hot ⟨hh, o1, vs1, Heap.get?_push_of_some _ (Heap.get?_push_of_some _ h1), d1, c1⟩ (Nat.ne_of_lt (Heap.lt_size (Heap.get?_push_of_some _ h1))) (Heap.get?_push_size _ rfl) rfl (by first | (simp; done) | (simp; omega) | (simp only [Array.size_append]; simp; omega)) ?_
  refine wpAny_bind (wpAny_isInstance (T := "StopIteration") (b := true) ⟨_, Heap.get?_update_self _ (Heap.get?_push_size _ rfl) rfl, rfl⟩ isSubtype_stop ?_)
  refine wpAny_pure (hQ _ fun b o hb e => ?_)
  have e1 := (Heap.SameBut.update s.heap it (Obj.mapFields fun x => x.setIfInBounds 0 Value.none)).extBut b o hb e
  rw [Heap.get?_update_other _ _ (Nat.ne_of_gt (Heap.lt_size (Heap.get?_push_of_some _ e1)))]
  exact Heap.get?_push_of_some _ (Heap.get?_push_of_some _ e1)
theorem next_tuple_end_hot {it l x1 : Addr} {i : Nat} {items} {Q : Option Value → Shared → Prop} (hot : HotAt A x1 s.heap)
    (hit : IsTupIter s.heap it l i) (hl : IsTup s.heap l items) (hx : items[i]? = none)
    (hQ : ∀ h', Heap.ExtBut it s.heap h' → Q none { s with heap := h' }) : wpAny (model prog w) A (pyNext (.ref it)) Q E s := by
  obtain ⟨o, ho, hc, hd⟩ := id hit
  obtain ⟨ol, hol, _, nl, hdl⟩ := hl
  have hne : x1 ≠ it := fun z => by
    obtain ⟨hh, o1, vs1, h1, d1, c1⟩ := hot
    rw [z, ho] at h1
    cases h1
    rw [hd] at d1
    cases d1
    simp at c1
  unfold pyNext
  refine wpAny_bind (wpAny_attempt (wpAny_callSpecial?_slot (name := Str.ofString "__next__") hit.typeIs slot_tupleiter_next
    (wpAny_call_entry slot_tupleiter_next hit.typeIs entry_tupleiter_next ?_ (args_tupleiter_next _))))
  show wpAny _ _ (field (.ref it) 0 >>= _) _ _ s
  refine wpAny_bind (wpAny_field ho hd (x := .ref l) rfl ?_)
  show wpAny _ _ (if (Value.ref l == Value.none) = true then _ else _) _ _ s
  rw [if_neg (show ¬ ((Value.ref l == Value.none) = true) from Bool.false_ne_true)]
  show wpAny _ _ (field (.ref it) 1 >>= _) _ _ s
  refine wpAny_bind (wpAny_field ho hd (x := .int i 0) rfl ?_)
  show wpAny _ _ (seqItems? (.ref l) >>= _) _ _ s
  refine wpAny_bind (wpAny_seqItems hol hdl ?_)
  simp only [Int.toNat_natCast, hx]
  refine wpAny_bind (wpAny_rule (wpAny_bind (wpAny_setField ho hd (by simp) ?_)))
  obtain ⟨hh, o1, vs1, h1, d1, c1⟩ := hot_but hot (Heap.SameBut.update s.heap it _).extBut hne
  show wpAny _ _ (newExc (.type "StopIteration") [] >>= _) _ _ _
  refine wpAny_bind ?_
  simp only [newExc, newTuple]
  refine wpAny_bind (wpAny_newObj_type ?_ (by size_fits))
  refine wpAny_bind (m := firstArgMember _ _) (wpAny_of_eq (a := Value.none) (by first | rfl | (simp only [firstArgMember]; rfl)) ?_)
  refine wpAny_newObj_type ?_ (by size_fits)
  refine raiseNew_hot ⟨hh, o1, vs1, Heap.get?_push_of_some _ (Heap.get?_push_of_some _ h1), d1, c1⟩ (Nat.ne_of_lt (Heap.lt_size (Heap.get?_push_of_some _ h1))) (Heap.get?_push_size _ rfl) rfl (by first | (simp; done) | (simp; omega) | (simp only [Array.size_append]; simp; omega)) ?_
  refine wpAny_bind (wpAny_isInstance (T := "StopIteration") (b := true) ⟨_, Heap.get?_update_self _ (Heap.get?_push_size _ rfl) rfl, rfl⟩ isSubtype_stop ?_)
  refine wpAny_pure (hQ _ fun b o hb e => ?_)
  have e1 := (Heap.SameBut.update s.heap it (Obj.mapFields fun x => x.setIfInBounds 0 Value.none)).extBut b o hb e
  rw [Heap.get?_update_other _ _ (Nat.ne_of_gt (Heap.lt_size (Heap.get?_push_of_some _ e1)))]
  exact Heap.get?_push_of_some _ (Heap.get?_push_of_some _ e1)

theorem unpackItems_tuple_hot {x1 t : Addr} {items : Array Value} {Q : List Value → Shared → Prop} (hot : HotAt A x1 s.heap) (ht : IsTup s.heap t items)
    (hQ : ∀ h', Heap.ExtBut s.heap.objs.size s.heap h' → Q items.toList { s with heap := h' }) : wpAny (model prog w) A (unpackItems (.ref t) items.size none) Q E s := by
  have hlt : t ≠ s.heap.objs.size := by obtain ⟨o, ho, _⟩ := ht; exact Nat.ne_of_lt (Heap.lt_size ho)
  have hx : x1 ≠ s.heap.objs.size := by obtain ⟨_, o, _, ho, _⟩ := hot; exact Nat.ne_of_lt (Heap.lt_size ho)
  unfold unpackItems
  refine wpAny_bind ?_
  · unfold notIterableAtAll
    refine wpAny_bind (wpAny_specialOf ht.typeIs slot_tuple_iter.lookup ?_)
    refine wpAny_pure ?_
    simp only [Bool.false_eq_true, if_false]
    refine wpAny_bind (wpAny_holding (iter_tuple ht ?_))
    refine wpAny_bind (wpAny_holding (draw_tuple hlt items.size 0 _ _ ⟨_, Heap.get?_push_size _ rfl, rfl, rfl⟩ (ht.push _) (by omega) fun h₁ hit₁ hs₁ => ?_))
    have hall : List.take items.size (List.drop 0 items.toList) = items.toList := by
      rw [List.drop_zero]; exact List.take_of_length_le (by simp)
    rw [hall]
    rw [if_neg (by simp)]
    have ht₁ : IsTup h₁ t items := (ht.push _).extBut hs₁.extBut hlt
    have hot1 : HotAt A x1 h₁ := hot_but hot (fun b o hb e => hs₁.extBut b o hb (Heap.get?_push_of_some _ e)) hx
    refine wpAny_bind (wpAny_holding (next_tuple_end_hot (s := { s with heap := h₁ }) hot1 hit₁ ht₁ (by simp) fun h₂ he₂ => ?_))
    simp only [Option.isSome_none, Bool.false_eq_true, if_false]
    refine wpAny_pure (hQ h₂ fun b o hb e => he₂ b o hb (hs₁.extBut b o hb (Heap.get?_push_of_some _ e)))
theorem assign_Tuple_tuple_hot {env : Env} {elts : List Expr} {x0} {x1 : Addr} {pos : Pos} {t : Addr} {items : Array Value} {Q : Unit → Shared → Prop} (hot : HotAt A x1 s.heap) (ht : IsTup s.heap t items)
    (hn : (assignEach elts env).length = items.size) (hstar : (assignEach elts env).findIdx? (·.1) = none)
    (h : ∀ h', Heap.ExtBut s.heap.objs.size s.heap h' → wpAny (model prog w) A (assignInOrder ((assignEach elts env).map (·.2)) items.toList) Q E { s with heap := h' }) :
    wpAny (model prog w) A (assign (.Tuple elts x0 pos) env (.ref t)) Q E s := by
  rw [assign_Tuple]
  refine wpAny_bind (wpAny_standAt ?_)
  unfold unpack
  rw [hn, hstar]
  exact wpAny_bind (wpAny_holding (unpackItems_tuple_hot hot ht h))
end
theorem pg_tupH {X : Cx} {pos : Pos} {es : List Expr} {k : Nat} {t : TGs} {n : Nat} (hc : HotC X) (h : PGs X es t)
    (hn : (assignEach es X.env).length = n := by rfl) (hst : (assignEach es X.env).findIdx? (·.1) = none := by rfl) : PG X (.Tuple es k pos) (gTup X.K n t) := by
  refine ⟨fun pins s σ H v u Q I r hw => ?_⟩
  obtain ⟨a, xs, e1, hq, hl, hw⟩ := hw
  subst e1
  cases r
  obtain ⟨its, rv, ht, hz⟩ := I.tuple hq
  obtain ⟨x1, hot⟩ := hc.at I
  refine assign_Tuple_tuple_hot hot ht (by simp [hn, ← hl, rv.length]) hst fun h' hx => ?_
  have I1 : Inv X pins σ H { s with heap := h' } := I.kept (t' := s.toks) fun b o e => hx b o (Nat.ne_of_lt (Heap.lt_size e)) e
  exact h.run pins _ σ H xs _ Q I1 (by simpa using rv) hw
theorem turn_listH {P : Program} {w : World} {K : PySem.W.Frag} {tg : Expr} (a it : Addr) : TurnH P w K tg (Itl K a) [it] it (fun i h => h.IsListIter it a i) where
  mem := by simp
  obj := fun i h st b hb => by
    have e : b = it := by simpa using hb
    subst e
    obtain ⟨o, e, c, d⟩ := st
    exact ⟨o, e, fun v z => by rw [d] at z; cases z⟩
  keep := fun i h h' st k => st.at fun o e => k it (by simp) o e
  item := by
    intro X hP hw hK hc i pins s σ H E I hf st hg
    subst hP hw hK
    obtain ⟨xs, x, hq, hx⟩ := hg
    obtain ⟨its, rv, p, hz⟩ := I.list hq
    obtain ⟨u, hu, ru⟩ := rv.get hx
    obtain ⟨f0, f1, f2, f3, f4, f5⟩ := hf it (by simp)
    refine wpAny_pyNext_list_item st p.isList (x := u) (by simpa using hu) fun h' st' sb => ?_
    have I1 : Inv X pins σ H { s with heap := h' } := I.turned (t' := s.toks) (fun b o hb e => (sb.2 b hb).trans e) f0 f1 f3 f4 f5
    obtain ⟨o, e, c, d⟩ := id st'
    exact ⟨u, rfl, go_of (s := { s with heap := h' }) e c d (by decide) ⟨x, H, I1, ru, ⟨rfl, fun ys hy => by rw [I.list_inj hy hq]; exact hx⟩, st', fun b hb => (hf b hb).1⟩⟩
  done := by
    intro X hP hw hK hc i pins s σ H E I hf st hg
    subst hP hw hK
    obtain ⟨xs, hq, hx⟩ := hg
    obtain ⟨its, rv, p, hz⟩ := I.list hq
    obtain ⟨f0, f1, f2, f3, f4, f5⟩ := hf it (by simp)
    have hl := rv.length
    obtain ⟨x1, hot⟩ := hc.at I
    exact next_list_end_hot hot st p.isList (by simp; omega) fun h' eb => ⟨rfl, I.turned (t' := s.toks) (fun b o hb e => eb b o hb e) f0 f1 f3 f4 f5⟩
  self := fun _ _ _ _ _ st h => wpAny_pyIter_listiter st h
theorem pi_listH {X : Cx} {tg l : Expr} {tl : TE} (hl : PE X l tl) : PIH X tg l (iList X.K tl) := by
  refine ⟨fun pins s σ H R I h => ?_⟩
  refine thn (hl.run pins s σ H _ I h) fun v s1 ⟨x, H1, I1, r1, q1⟩ => ?_
  obtain ⟨a, e, ⟨xs, hq⟩, q⟩ := q1
  subst e
  cases r1
  obtain ⟨its, rv, p, hz⟩ := I1.list hq
  refine wpAny_pyIter_list p.isList ?_
  refine ⟨s1.heap.objs.size, [s1.heap.objs.size], _, _, H1, rfl, I1.kept (t' := s1.toks) fun b o e => Heap.get?_push_of_some _ e, turn_listH a _, ⟨_, Heap.get?_push_size _ rfl, rfl, rfl⟩, fun b hb => ?_, q⟩
  have e : b = s1.heap.objs.size := by simpa using hb
  subst e
  exact I1.fpOk (Nat.le_refl _) (I1.hok.fresh (Nat.le_refl _))

/-- the context of a comprehension's block that bears the pins of its def -/
abbrev blkH (X : Cx) (pins : List (Addr × Obj)) (s : Shared) (H : Hp) (scope : Scope) (cenv : Env) (fp : List Addr) : Cx := { X.blk s H scope cenv fp with pn := X.pn ++ pins }
section
variable {X : Cx} {pins : List (Addr × Obj)} {σ : L2.St} {H : Hp} {s : Shared}
theorem okH {scope : Scope} {cenv : Env} {fp : List Addr} (ok : (X.blk s H scope cenv fp).Ok) : (blkH X pins s H scope cenv fp).Ok :=
  ⟨ok.mod, ok.kind, ok.glob, ok.blt, ok.above, ok.inj, ok.has, ok.cab, ok.hd, ok.frames, ok.stk, ok.exf, ok.bs, ok.bsz, ok.noex, ok.exfs, ok.funs, ok.frf⟩
theorem block_startH {scope : Scope} {own : List (Str × Nat)} {fp : List Addr} (I : Inv X pins σ H s) (ok : BlkOk X.N X.env.scope scope own) (hN : X.N.Nodup) (hfp : ∀ b ∈ fp, FpOk X pins H b ∧ b < s.heap.objs.size) :
    Inv (blkH X pins s H scope (compEnvC scope (cellsFrom (s.heap.objs.size + 1) scope.names (cloFrom X.env.cells scope.names [])) s.heap.objs.size X.env) fp) [] (wipe σ (own.map (·.2))) H { s with heap := pushCells (s.heap.push { cls := .type "dict", data := .dict #[] }) scope.names } := by
  have J := block_start I ok hN hfp
  refine ⟨okH J.ok, J.os, J.bare, J.base, J.loc, J.cell, J.free, J.freeC, fun p hp => ?_, J.hok, J.len⟩
  have hp' : p ∈ X.pn ++ pins := by rw [List.append_nil] at hp; exact hp
  obtain ⟨h1, h2, h3, h4, h5⟩ := I.pin p hp'
  refine ⟨pushCells_keeps _ _ _ _ (Heap.get?_push_of_some _ h1), h2, Nat.ne_of_lt (Heap.lt_size h1), fun z => ?_, h5⟩
  rcases List.mem_cons.mp (I.stkSub _ z) with z | z
  · exact h3 z
  · exact h4 z
theorem lc_coreH {Q : VK} {elt tg iter : Expr} {ifs : List Expr} {scope : Scope} {own : List (Str × Nat)} {pos pos' : Pos} {wi : TI} {g : TG} {tt : TT} {te : TE} {use : Option (Value → Sem Unit)} {Qf : Value → Shared → Prop}
    (hc : HotC X) (hN : X.N.Nodup) (I : Inv X pins σ H s) (hi : PIH X tg iter wi) (ok : BlkOk X.N X.env.scope scope own)
    (hg : ∀ (s : Shared) (H : Hp) (C : Addr) (cl : List (Str × Addr)) (fp : List Addr), PG (blkH X pins s H scope (compEnvC scope cl C X.env) fp) tg g) (ht : ∀ (s : Shared) (H : Hp) (C : Addr) (cl : List (Str × Addr)) (fp : List Addr), PTs (blkH X pins s H scope (compEnvC scope cl C X.env) fp) ifs tt)
    (he : ∀ (s : Shared) (H : Hp) (C : Addr) (cl : List (Str × Addr)) (fp : List Addr), PE (blkH X pins s H scope (compEnvC scope cl C X.env) fp) elt te) (hs : ∀ x, foldedSetIterable iter X.env x = pure x)
    (h : tLc wi g tt te (own.map (·.2)) σ H Q)
    (hRR : ∀ D C s' m H', Inv X pins σ H' s' → Q (.ref D) H' → s'.heap.Ns C m → FpOk X pins H' C → compPost (model X.prog X.w) X.A X.xe use Qf (.ref D) C (.ok .next) s') :
    wpAny (model X.prog X.w) X.A (comprehension (.ListComp elt [⟨tg, iter, ifs, 0⟩] scope pos) scope X.env pos' (newList []) false (eval iter X.env) use) Qf X.xe s := by
  have hfree : ∀ y ∈ scope.names, y.2 = .free → ∃ c, X.env.cells.lookup y.1 = some c := fun y hy e => (ok.free y hy e).elim (fun k => I.ok.has _ (.inl k)) fun k => I.ok.has _ (.inr k)
  have hcB : ∀ {s : Shared} {H : Hp} {ce : Env} {fp : List Addr}, HotC (blkH X pins s H scope ce fp) := fun {s H ce fp} => let ⟨p, h1, h2⟩ := hc; ⟨p, h1, List.mem_append_left _ h2⟩
  refine wpAny_comprehension_free (use := use) rfl hs (closure_ok hfree) ok.kind (fun y hy e => by rw [ok.uniq y hy, e])
    (thn (hi.run pins s σ H _ I h) fun xv s1 hx => thn hx fun itv s2 h2 => ?_)
  obtain ⟨it, fp, tn, J, H2, e, I2, T, st2, f2, q⟩ := h2
  subst e
  refine wpAny_newObj_type (newEnv_comp ?_) (by show 0 ≤ sizeLine; decide)
  generalize hD : s2.heap.objs.size = D
  have hDn : H2 D = none := I2.hok.fresh (Nat.le_of_eq hD)
  obtain ⟨W, ⟨m0, w0⟩, turn⟩ := q D hDn
  generalize hs3 : ({ s2 with heap := s2.heap.push { cls := .type "list", data := .seq ([] : List Value).toArray } } : Shared) = s3
  have I3 : Inv X pins σ (upd H2 D (.lst [])) s3 := by
    rw [← hs3]
    refine I2.laid (t' := s2.toks) (fun b o e => Heap.get?_push_of_some _ e) (Nat.le_of_eq hD) ⟨Nat.zero_le _, [], 0, .nil, ?_⟩
    rw [← hD]
    exact Heap.get?_push_size _ rfl
  have h3 : s3.heap = s2.heap.push { cls := .type "list", data := .seq ([] : List Value).toArray } := by rw [← hs3]
  have sz : ∀ b ∈ fp, b < s2.heap.objs.size := fun b hb => by
    obtain ⟨o, e, _⟩ := T.obj _ _ st2 b hb
    exact Heap.lt_size e
  have f3 : ∀ b ∈ fp, FpOk X pins (upd H2 D (.lst [])) b ∧ b < s3.heap.objs.size := fun b hb => by
    have hlt := sz b hb
    refine ⟨⟨?_, (f2 b hb).2⟩, by rw [h3, Heap.size_push]; exact Nat.lt_succ_of_lt hlt⟩
    rw [upd_ne (by rw [← hD]; exact Nat.ne_of_lt hlt)]
    exact (f2 b hb).1
  have st3 : tn 0 s3.heap := T.keep _ _ _ st2 fun b _ o e => by rw [h3]; exact Heap.get?_push_of_some _ e
  have I4 := block_startH I3 ok hN f3
  have pg := hg s3 (upd H2 D (.lst [])) s3.heap.objs.size (cellsFrom (s3.heap.objs.size + 1) scope.names (cloFrom X.env.cells scope.names [])) fp
  have pt := ht s3 (upd H2 D (.lst [])) s3.heap.objs.size (cellsFrom (s3.heap.objs.size + 1) scope.names (cloFrom X.env.cells scope.names [])) fp
  have pe := he s3 (upd H2 D (.lst [])) s3.heap.objs.size (cellsFrom (s3.heap.objs.size + 1) scope.names (cloFrom X.env.cells scope.names [])) fp
  show codeAny _ _ (.compStart (.ListComp elt [⟨tg, iter, ifs, 0⟩] scope pos) 0 (.ref it) (.ref D) (compEnvC scope (cellsFrom (s3.heap.objs.size + 1) scope.names (cloFrom X.env.cells scope.names [])) s3.heap.objs.size X.env)) (compPost (model X.prog X.w) X.A X.xe use Qf (.ref D) s3.heap.objs.size) { s3 with heap := pushCells (s3.heap.push { cls := .type "dict", data := .dict #[] }) scope.names }
  have nfp : ∀ b ∈ fp, (upd H2 D (.lst [])) b = none := fun b hb => (f3 b hb).1.1
  generalize hce : compEnvC scope (cellsFrom (s3.heap.objs.size + 1) scope.names (cloFrom X.env.cells scope.names [])) s3.heap.objs.size X.env = ce at I4 pg pt pe ⊢
  have cL : ce.locals = s3.heap.objs.size := by subst hce; rfl
  generalize hH3 : upd H2 D (.lst []) = H3 at I3 I4 pg pt pe w0 nfp f3
  generalize hs4 : ({ s3 with heap := pushCells (s3.heap.push { cls := .type "dict", data := .dict #[] }) scope.names } : Shared) = s4 at I4 ⊢
  have st4 : tn 0 s4.heap := T.keep _ _ _ st3 fun b _ o e => by rw [← hs4]; exact pushCells_keeps _ _ _ _ (Heap.get?_push_of_some _ e)
  have stat : ∀ {σ' : L2.St} {H' : Hp} {s' : Shared}, Inv (blkH X pins s3 H3 scope ce fp) [] σ' H' s' → (∀ b ∈ fp, H' b = none) → ∀ b ∈ fp, FpOk (blkH X pins s3 H3 scope ce fp) [] H' b := fun {σ' H' s'} I' hn b hb =>
    ⟨hn b hb, (I'.ok.exf b hb).1, I'.ok.exfs b hb, .inl hb, fun x c e => (I'.ok.exf b hb).2 x c e, fun p hp => (f2 b hb).2.2.2.2.2 p (by
      have hp' : p ∈ (X.pn ++ pins) ++ [] := hp
      rw [List.append_nil] at hp'
      exact hp')⟩
  have loop : codeAny (model X.prog X.w) X.A (.compLoop (.ListComp elt [⟨tg, iter, ifs, 0⟩] scope pos) 0 (.ref it) (.ref D) ce) (compPost (model X.prog X.w) X.A X.xe use Qf (.ref D) s3.heap.objs.size) s4 := by
    refine compLoop_any (fun n s' => ∃ i H', Inv (blkH X pins s3 H3 scope ce fp) [] (wipe σ (own.map (·.2))) H' s' ∧ tn i s'.heap ∧ (∀ b ∈ fp, H' b = none) ∧ W i n H') ?_ m0 ⟨0, H3, I4, st4, nfp, w0⟩
    rintro n s5 ⟨i, H5, I5, st5, n5, w5⟩
    rcases turn i n H5 w5 with ⟨stop, qq⟩ | ⟨go, Nx, hNx, step⟩
    · have td := T.done (blkH X pins s3 H3 scope ce fp) rfl rfl rfl hcB i [] s5 _ H5 (fun _ _ => False) I5 (stat I5 n5) st5 stop
      refine thnF td fun r s6 ⟨hr, I6⟩ => ?_
      subst hr
      have I7 : Inv X pins σ H5 s6 := I3.call' (ch := fp) I6.os I6.base I6.hok I6.bare fun b hb => ⟨(f3 b hb).1.2.2.2.1, (f3 b hb).1.2.1, (f3 b hb).1.2.2.2.2.1, (f3 b hb).1.2.2.2.2.2⟩
      have nC : H5 s3.heap.objs.size = none := by
        have z : H5 ce.locals = none := I6.free
        rw [cL] at z
        exact z
      obtain ⟨m, hn, _⟩ := I6.loc
      have hn : s6.heap.Ns ce.locals m := hn
      rw [cL] at hn
      exact hRR D s3.heap.objs.size s6 m H5 I7 qq hn (I3.fpOk (Nat.le_refl _) nC)
    · have ti := T.item (blkH X pins s3 H3 scope ce fp) rfl rfl rfl hcB i [] s5 _ H5 (fun _ _ => False) I5 (stat I5 n5) st5 go
      refine thnF ti fun r s6 ⟨u, hr, h6⟩ => ?_
      subst hr
      refine thnF h6 fun _ s7 ⟨x, H7, I7, r7, y7, st7, n7⟩ => ?_
      have I7' := I7.pinned (stat I7 n7) (T.obj _ _ st7)
      refine thnF (pg.run _ s7 _ H7 x u _ I7' r7 (step x H7 y7)) fun _ s8 ⟨σ8, H8, I8, hw8, q8⟩ => ?_
      refine thnF (pt.run _ s8 σ8 H8 _ I8 q8) fun b s9 ⟨H9, I9, q9⟩ => ?_
      have fin : ∀ {s' : Shared} {H' : Hp}, Inv (blkH X pins s3 H3 scope ce fp) ([] ++ pinsAt fp s7.heap) σ8 H' s' → Nx H' → ∃ m, m < n ∧ ∃ i H', Inv (blkH X pins s3 H3 scope ce fp) [] (wipe σ (own.map (·.2))) H' s' ∧ tn i s'.heap ∧ (∀ b ∈ fp, H' b = none) ∧ W i m H' := fun {s' H'} I' nx => by
        obtain ⟨m', hm, w'⟩ := hNx H' nx
        have pin' : ∀ b ∈ fp, ∀ o, s7.heap.get? b = some o → s'.heap.get? b = some o ∧ H' b = none := fun b hb o e =>
          let z := I'.pin (b, o) (List.mem_append_right _ (List.mem_append_right _ (mem_pinsAt hb e)))
          ⟨z.1, z.2.1⟩
        have hl : (wipe σ (own.map (·.2))).length = σ8.length := by rw [← hw8, wipe_length]
        refine ⟨m', hm, i + 1, H', (I'.unpinned (pins := [])).weak hl (fun j v e => ?_), T.keep _ _ _ st7 fun b hb o e => (pin' b hb o e).1, fun b hb => ?_, w'⟩
        · rw [← hw8] at e
          exact (wipe_some e).1
        · obtain ⟨o, e, _⟩ := T.obj _ _ st7 b hb
          exact (pin' b hb o e).2
      cases b with
      | false =>
        simp only [Bool.false_eq_true, if_false] at q9 ⊢
        exact fin I9 q9
      | true =>
        simp only [if_true] at q9 ⊢
        refine thnF (pe.run _ s9 σ8 H9 _ I9 q9) fun z s10 ⟨yv, H10, I10, r10, acc, hD10, hz10, nx⟩ => ?_
        exact app_ok (X := blkH X pins s3 H3 scope ce fp) I10 hD10 hz10 r10 fun s11 I11 => fin I11 nx
  exact codeAny_compStart_list loop (T.self X.A 0 _ _ _ st4 loop)
end
end VLH
end

section
set_option Elab.async false
set_option linter.all false
set_option maxRecDepth 100000
set_option maxHeartbeats 4000000
/-! except X as n, where a comprehension holds n -/
namespace VLH
open PySem PySem.Spec PyProof.Rows L2 HotX VL
open L2H (HotC TurnH PIH PIEH HotC.at)
section
variable {X : Cx} {pins : List (Addr × Obj)} {σ : L2.St} {H : Hp} {s : Shared}
/-- the cell's name goes -/
theorem gone_okC {M : Model} {A : Around} {E : Value → Shared → Prop} {i : Nat} {n : Str} {pos : Pos} {Q : Unit → Shared → Prop} (I : Inv X pins σ H s) (hN : X.N.Nodup) (hi : X.N[i]? = some n) (hl : X.env.kindOf n = some .cell) (hfn : X.fn n = true)
    (h : ∀ s', Inv X pins (σ.set i none) H s' → Q () s') : wpAny M A (do bindName X.env n .none; unbindBehindTheSuite X.env n pos) Q E s := by
  obtain ⟨m, hn, hlk⟩ := id I.loc
  have cne := I.cne
  obtain ⟨c, hc⟩ := I.ok.has n (.inl hl)
  obtain ⟨w', z⟩ := I.cell n c hc
  obtain ⟨oc, hoc, hocd⟩ := id z
  refine wpAny_bind (wpAny_bindName (wpAny_storeName_cell I.ok.kind hl hc z fun h1 hc1 hs1 => ?_))
  unfold unbindBehindTheSuite
  refine wpAny_onRaise ?_
  unfold unbindName
  refine wpAny_bind (wpAny_point (wpAny_bind ?_))
  unfold deleteName
  simp only [hl]
  refine wpAny_bind (wpAny_cellOf hc (wpAny_bind (wpAny_cellGet hc1 ?_)))
  rw [if_pos (show (some Value.none).isSome = true from rfl)]
  refine wpAny_cellSet hc1 fun h2 hc2 hs2 => wpAny_point ?_
  have hs := hs1.trans hs2
  refine h _ ⟨I.ok, I.os, I.bare, ⟨fun b o e n hb hx => ?_, fun b o e n hb hx => ?_, I.base.free, fun b o e hx => ?_, I.base.tups, I.base.frzs, I.base.tbls⟩, ⟨m, hn.sameBut hs (Ne.symm (cne n c hc)), fun j y v' e1 e2 e3 => ?_⟩, fun y c' e => ?_, I.free, I.freeC, fun p hp => ?_, fun b ob e => ?_, by simpa using I.len⟩
  · exact (hs.2 b (Nat.ne_of_lt (Nat.lt_of_lt_of_le (Heap.lt_size e) (I.ok.cab _ c hfn hc)))).trans (I.base.keep b o e n hb hx)
  · obtain ⟨sl, e1⟩ := I.base.slot b o e n hb hx
    exact ⟨sl, (hs.2 b (Nat.ne_of_lt (Nat.lt_of_lt_of_le (Heap.lt_size e) (I.ok.cab _ c hfn hc)))).trans e1⟩
  · obtain ⟨o', e1⟩ := I.base.there b o e hx
    exact ⟨o', (hs.2 b (Nat.ne_of_lt (Nat.lt_of_lt_of_le (Heap.lt_size e) (I.ok.cab _ c hfn hc)))).trans e1⟩
  · by_cases hj : j = i
    · subst hj
      by_cases hlt : j < σ.length
      · rw [List.getElem?_set_self hlt] at e2; cases e2
      · rw [List.getElem?_eq_none (by simpa using hlt)] at e2; cases e2
    · rw [List.getElem?_set_ne (Ne.symm hj)] at e2
      obtain ⟨u', r', q⟩ := hlk j y v' e1 e2 e3
      refine ⟨u', r', ?_⟩
      rcases q with q | ⟨k, c', e, z'⟩
      · exact .inl q
      · refine .inr ⟨k, c', e, z'.sameBut hs ?_⟩
        rintro rfl
        exact hj (nodup_ix hN e1 (I.ok.inj _ _ _ e hc ▸ hi))
  · by_cases hcc : c' = c
    · subst hcc; exact ⟨_, hc2⟩
    · obtain ⟨w2, z2⟩ := I.cell y c' e
      exact ⟨w2, z2.sameBut hs hcc⟩
  · obtain ⟨e, n, ne, nf, d⟩ := I.pin p hp
    refine ⟨(hs.2 p.1 ?_).trans e, n, ne, nf, d⟩
    intro q
    rw [q, hoc] at e
    have q' : oc = p.2 := Option.some.inj e
    exact d w' (by rw [← q']; exact hocd)
  · refine (I.hok b ob e).stay (fun d w2 hd q => (hs.2 d fun z2 => ?_).trans q) (fun _ q => q) fun _ _ q => q
    have hfree := I.freeC n _ hc
    rw [z2] at hd
    rcases hd with k | k
    · rw [← k, hfree] at e; cases e
    · rw [hfree] at k; cases k
end
section
variable {X : Cx} {x n : Str} {c : Value} {i : Nat} {body suite : List Stmt} {b₀ : Stmt} {np pos pos' : Pos} {tb : WX → TS} {ts : Addr → Value → Option Addr → TS} {Wout : WX}
theorem ps_try_asC (hs : X.stack = X.env :: X.outer) (hf : X.env.frame = some X.env.locals) (hN : X.N.Nodup) (hi : X.N[i]? = some n) (hln : X.env.kindOf n = some .cell) (hfn : X.fn n = true) (hc : Names X x c) (tk : L2N.Takes X Wout)
    (hb : ∀ (W : WX) (pn : List (Addr × Obj)) (xe : Value → Shared → Prop), L2N.Takes (X.tr pn xe) W → PassesOwn (model X.prog X.w) X.A X.env xe → PSs (X.tr pn xe) body (tb W))
    (hsu : ∀ (a : Addr) (oe : Obj) (cls : Value) (d : Option Addr) (pn : List (Addr × Obj)), L2N.Zn cls d oe → (∃ vs, oe.data = .fields vs) → PSs (X.suite a ((a, oe) :: pn)) (b₀ :: suite) (ts a cls d)) :
    PS X (.Try body [.ExceptHandler (some (.Name x np)) (some n) (b₀ :: suite) pos'] [] [] pos) (fun D σ H => tb (wAs X.K c i ts Wout D) D σ H) := by
  refine ⟨fun pins s σ H D I h => ?_⟩
  have ok := I.ok
  have hfr : X.A.frames = some (X.env :: X.outer) := by rw [ok.frames, hs]
  have hloc : Loc X.env.scope n := .inr hln
  refine wpAny_Try_except ?_
  refine wpAny_mono ((hb (wAs X.K c i ts Wout D) (X.pn ++ pins) (fun e s₁ => wpAny (model X.prog X.w) X.A (noteFrame e X.env) (fun _ s₂ => wpAny (model X.prog X.w) X.A (setFlight e none) (fun _ s₃ =>
    wpAny (model X.prog X.w) X.A (handleBy e X.env [.ExceptHandler (some (.Name x np)) (some n) (b₀ :: suite) pos']) (SP X pins D) X.xe s₃) X.xe s₂) X.xe s₁) (fun u s' xx => ?_) PassesOwn.looking).run [] s σ H D (I.toTry _) h) (fun f s1 hsp => ?_) (fun e s1 he => he)
  · -- the catch
    obtain ⟨a, B, sI, pins', σ', H', cls, d, rfl, J', nb, up, sky, na, os, ag, b, hb1, hyes, hno⟩ := xx
    have J : Inv X pins σ' H' sI := J'.ofTry ok
    have sky' : Sky B (X.env :: X.outer) a (L2N.Zn cls d) X.env.locals s'.heap := by rw [← hs]; exact sky
    show wpAny (model X.prog X.w) X.A (noteFrame (.ref a) X.env) _ _ _
    refine L2N.Sky.land L2N.Zn.steady hfr hf sky' fun h3 fl3 up3 => ?_
    have J3 : Inv X pins σ' H' { s' with heap := h3 } := J.landed nb fl3.1 (up.trans up3) os ag
    obtain ⟨oe3, vs3, he3, hz3, hd3⟩ := fl3.there
    have notFr : ∀ {h : Heap} {o : Obj} {vs : Array Value}, h.FunFrames B (X.env :: X.outer) → h.get? a = some o → o.data = .fields vs → a ∉ frs (X.env :: X.outer) := fun {h o vs} ff e dd hm => by
      obtain ⟨_, o', e', hnf⟩ := ff.mem hm
      rw [e] at e'; cases e'
      exact hnf _ dd
    have nfr := notFr fl3.2.2.1 he3 hd3
    have nL : a ≠ X.env.locals := fun z => nfr (List.mem_filterMap.mpr ⟨X.env, List.mem_cons_self, by rw [hf, z]⟩)
    have nF : a ∉ X.fs := fun hm => by
      obtain ⟨e, he, q⟩ := List.mem_filterMap.mp hm
      exact nfr (List.mem_filterMap.mpr ⟨e, List.mem_cons_of_mem _ he, q⟩)
    have S3 := J3.suite he3 hd3 na nL nF
    refine wpAny_handleBy_cons (codeAny_handlers_test ?_) (by intro q; cases q)
    have LT : PySem.W.Looks (model X.prog X.w) h3 (typeOf (.ref a)) cls := fun A Q E s k q => wpAny_typeOf_ref (k _ _ he3) (by rw [hz3.1]; exact q)
    have LM := PySem.W.exm_one (M := model X.prog X.w) (J3.kIn) LT hb1
    have test : ∀ {Q : Value → Shared → Prop} {E : Value → Shared → Prop}, Q c { s' with heap := h3 } → wpAny (model X.prog X.w) (X.A.mark (some (.ref a))) (eval (.Name x np) X.env) Q E { s' with heap := h3 } := fun {Q E} q => by
      obtain ⟨hg, hdbg, hm | ⟨hm, hv, hnn⟩⟩ := hc
      · exact ld_glob (X := X.suite a ((a, oe3) :: (X.pn ++ pins))) S3 hg hm q hdbg
      · exact ld_blt (X := X.suite a ((a, oe3) :: (X.pn ++ pins))) S3 hg hm hv q hnn hdbg
    refine test (LM.here ?_)
    cases b with
    | true =>
      refine codeAny_handlers_suite_as ?_
      refine HandSPX.lands_againZ fl3 fun h4 fl4 up4 => ?_
      have J4 : Inv X pins σ' H' { s' with heap := h4 } := J.landed nb fl4.1 ((up.trans up3).trans up4) os ag
      obtain ⟨oe4, vs4, he4, hz4, hd4⟩ := fl4.there
      have S4 := J4.suite he4 hd4 na nL nF
      refine store_ok (X := X.suite a ((a, oe4) :: (X.pn ++ pins))) (v := .ref a) S4 hN hi hloc rfl (fun s5 S5 => ?_) (.inl hfn)
      refine wpAny_mono ((hsu a oe4 cls d (X.pn ++ pins) hz4 ⟨_, hd4⟩).run [] s5 _ H' _ S5 (hyes rfl a na)) (fun f s6 hsp => ?_) (fun _ _ z => False.elim z)
      have end_ : ∀ {σ6 : L2.St} {H6 : Hp} {Q : Shared → Prop}, Inv (X.suite a ((a, oe4) :: (X.pn ++ pins))) [] σ6 H6 s6 → (∀ s7, Inv X pins (σ6.set i none) H6 s7 → Q s7) →
          wpAny (model X.prog X.w) X.A (do bindName X.env n .none; unbindBehindTheSuite X.env n pos') (fun _ s7 => Q s7) X.xe s6 := fun {σ6 H6 Q} S6 hq => gone_okC (S6.unsuite ok) hN hi hln hfn hq
      cases f with
      | next =>
        obtain ⟨σ6, H6, S6, q6⟩ := hsp
        exact end_ S6 fun s7 J7 => ⟨_, _, J7, q6⟩
      | brk =>
        obtain ⟨σ6, H6, S6, q6⟩ := hsp
        exact end_ S6 fun s7 J7 => ⟨_, _, J7, q6⟩
      | cont =>
        obtain ⟨σ6, H6, S6, q6⟩ := hsp
        exact end_ S6 fun s7 J7 => ⟨_, _, J7, q6⟩
      | ret u =>
        obtain ⟨v6, σ6, H6, S6, r6, q6⟩ := hsp
        exact end_ S6 fun s7 J7 => ⟨_, _, _, J7, r6, q6⟩
    | false =>
      show wpAny _ X.A (handleBy (.ref a) X.env []) _ _ _
      refine wpAny_handleBy_nil ?_
      obtain ⟨k1, k2, k3, oe, vs, T, oT, ts', he, hz, hd, h1, hr⟩ := id fl3
      unfold PySem.passOn
      refine wpAny_bind (wpAny_field he hd h1 ?_)
      rw [if_neg (show ¬ ((Value.ref T == Value.none) = true) from by simp)]
      have fin : wpAny (model X.prog X.w) X.A (setFlight (.ref a) X.env.frame) (fun _ s4 => wpAny (model X.prog X.w) X.A (throw (.ref a) : Sem Flow) (SP X pins D) X.xe s4) X.xe { s' with heap := h3 } := by
        rw [hf]
        refine HandSPX.setFlight_upZ fl3 fun h4 hh4 up4 => wpAny_throw (tk _ _ ?_)
        exact ⟨a, B, sI, pins, σ', H', cls, d, rfl, J, nb, (up.trans up3).trans up4, .inr (.inr (by rw [hs]; exact hh4)), na, os, ag, hno rfl⟩
      first
        | exact wpAny_bind (wpAny_pure (wpAny_bind fin))
        | exact wpAny_bind fin
  · cases f with
    | next =>
      obtain ⟨σ', H', J', q⟩ := hsp
      exact wpAny_execs_nil ⟨σ', H', J'.ofTry ok, q⟩
    | brk =>
      obtain ⟨σ', H', J', q⟩ := hsp
      exact ⟨σ', H', J'.ofTry ok, q⟩
    | cont =>
      obtain ⟨σ', H', J', q⟩ := hsp
      exact ⟨σ', H', J'.ofTry ok, q⟩
    | ret u =>
      obtain ⟨v, σ', H', J', r, q⟩ := hsp
      exact ⟨v, σ', H', J'.ofTry ok, r, q⟩
end
end VLH
end

section
set_option Elab.async false
set_option linter.all false
set_option maxRecDepth 100000
set_option maxHeartbeats 4000000
/-! the except suite in the words of the layer -/
namespace VLH
open PySem PySem.Spec PyProof.Rows L2 HotX VL
open L2H (HotC TurnH PIH PIEH HotC.at Hot1)
/-! ### isinstance of the caught exception -/
structure ExcD (K : PySem.W.Frag) (D : Addr) : Prop where
  cl : (PySem.W.clsIn K D).isSome = true
  ga : PySem.W.findIn K (.ref D) "__getattribute__" = some (some (.builtin "BaseException.__getattribute__"))
  gt : PySem.W.findIn K (.ref D) "__getattr__" = some none
  sb : PySem.W.subIn K (.ref D) (.type "BaseException") = some true
  ca : PySem.W.findIn K (.ref D) "__class__" = some (some (.builtin "object.__class__"))
  gs : PySem.W.specialIn K (.builtin "object.__class__") "__get__" = some (some (.builtin "getset_descriptor.__get__"))
  tk : PySem.W.takesIn K (.builtin "object.__class__") = some true
  mr : PySem.W.mroIn K D (.type "object") = some true
def rIsD (K : PySem.W.Frag) (a : Addr) (D : Addr) (d : Option Addr) : List V → Hp → VK → Prop := fun xs H Q => (d = none ∨ ∃ dd fs, d = some dd ∧ H dd = some (.xd fs)) ∧ ∃ (c : V) (cv : Value) (b : Bool), xs = [.ref a, c] ∧ (∀ u, RelV c u → u = cv) ∧ PySem.W.kitOne K (.ref D) cv = some b ∧ Q (.bl b) H
theorem call_isD {Z : Cx} {a D : Addr} {oe : Obj} {d : Option Addr} (hp : (a, oe) ∈ Z.pn) (C : ExcD Z.K D) (hz : Zc (.ref D) d oe) (hf : ∃ vs, oe.data = .fields vs) : CallR Z (.builtin "isinstance") (rIsD Z.K a D d) := by
  intro pins s σ H xs us Q I r h
  obtain ⟨hd, c, cv, b, rfl, hcv, e, q⟩ := h
  cases r with
  | cons rx rr =>
    cases rr with
    | cons rt rr =>
      cases rr
      cases rx
      have ec := hcv _ rt
      subst ec
      obtain ⟨hget, _⟩ := I.pin (a, oe) (List.mem_append.mpr (.inl hp))
      obtain ⟨vs, hv⟩ := hf
      have J : ∃ od, PySem.W.InstAt s.heap a oe D od := by
        rcases hd with hd | ⟨dd, fs, hd, hx⟩
        · refine ⟨none, hget, hz.1, by unfold PySem.W.notCls; rw [hv] <;> rfl, ?_⟩
          rw [hz.2, hd]
          trivial
        · have hx' : ObjOk Z.prog Z.w H s.heap dd (.xd fs) := I.hok dd _ hx
          obtain ⟨mA, hns, hr⟩ := hx'
          obtain ⟨od, ho, hl⟩ := lookIn_ns hns
          refine ⟨some od, hget, hz.1, by unfold PySem.W.notCls; rw [hv] <;> rfl, ?_⟩
          rw [hz.2, hd]
          exact ho
      obtain ⟨od, J⟩ := J
      exact PySem.W.kia_one (PySem.W.kitx_exc C.cl C.ga C.gt C.sb C.ca C.gs C.tk C.mr) I.kIn J e (fun z => nomatch z) fun tk => ⟨.bl b, H, I.kept (t' := tk) fun _ _ z => z, rfl, q⟩
/-- the caught exception as a datum -/
def exD (a : Addr) (dd : Option Addr) (fs : List (Str × VL.D)) : VL.D := match dd with
  | none => .adr a
  | some dx => .exc a dx fs
theorem rep_exD {K : PySem.W.Frag} {H : Hp} {a : Addr} {dd : Option Addr} {C : Addr} {fs : List (Str × VL.D)} {cls : Value} (h : ErRep K H cls dd ⟨C, fs⟩) : Rep K H (.ref a) (exD a dd fs) := by
  obtain ⟨_, ⟨_, e⟩ | ⟨dx, fvs, e, h1, h2⟩⟩ := h
  · subst e
    exact .adr a
  · subst e
    exact .exc h1 h2
theorem exD_ref {K : PySem.W.Frag} {H : Hp} {a : Addr} {dd : Option Addr} {fs : List (Str × VL.D)} {v : V} (h : Rep K H v (exD a dd fs)) : v = .ref a ∧ (dd = none ∨ ∃ d fs, dd = some d ∧ H d = some (.xd fs)) := by
  cases dd with
  | none => cases h; exact ⟨rfl, .inl rfl⟩
  | some dx => cases h with
    | exc h1 h2 => exact ⟨rfl, .inr ⟨_, _, rfl, h1⟩⟩
section
variable {Z : Cx} {e b : Expr} {ρ ρ1 ρ2 : Lo} {pos p : Pos} {a D : Addr} {oe : Obj} {dd : Option Addr} {fs : List (Str × VL.D)}
theorem c_isD {y : VL.D} {cv : Value} {k : Bool} (hp : (a, oe) ∈ Z.pn) (C : ExcD Z.K D) (hz : Zc (.ref D) dd oe) (hf : ∃ vs, oe.data = .fields vs) (hy : ∀ H v, Rep Z.K H v y → ∀ u, RelV v u → u = cv) (hm : Z.mg "isinstance" = none) (he : CE Z ρ e (exD a dd fs) ρ1) (hb : CE Z ρ1 b y ρ2) (hk : PySem.W.kitOne Z.K (.ref D) cv = some k) (hg : Gl Z "isinstance" := by rfl)
    (hs : starEach [e, b] Z.env = (false, eval e Z.env) :: starEach [b] Z.env := by rfl) (hpl : (backTo pos (starEach [b] Z.env)).any (·.1) = false := by rfl)
    (he2 : starEach [b] Z.env = (false, eval b Z.env) :: starEach [] Z.env := by rfl) : CE Z ρ (.Call (.Name "isinstance" p) [e, b] [] pos) (.bl k) ρ2 :=
  c_blt (call_isD hp C hz hf) (fun F O ρ σ H vs Q I r q => by
    obtain ⟨v, w, rfl, r1, r2⟩ := two_of r
    obtain ⟨rfl, hd⟩ := exD_ref r1
    exact ⟨hd.imp id fun ⟨d, f, e1, e2⟩ => ⟨d, f, e1, hid_ex _ _ e2⟩, w, cv, k, rfl, hy _ _ r2, hk, q _ _ I (.bl _)⟩) hm (by decide +kernel) (d_cons he (d_cons hb d_nil he2) hs) hg (he := hs) (hpl := hpl)
theorem rel_adr {K : PySem.W.Frag} {C : Addr} : ∀ (H : Hp) (v : V), Rep K H v (.adr C) → ∀ u, RelV v u → u = .ref C := fun H v r u h => by
  cases r
  exact h
theorem rel_ty {K : PySem.W.Frag} {T : String} : ∀ (H : Hp) (v : V), Rep K H v (.ty T) → ∀ u, RelV v u → u = .type T := fun H v r u h => by
  cases r
  exact h
theorem repF_lookup {K : PySem.W.Frag} {H : Hp} {n : Str} {d : VL.D} : ∀ {fvs : List (Str × V)} {fs : List (Str × VL.D)}, RepF K H fvs fs → fs.lookup n = some d → ∃ v, fvs.lookup n = some v ∧ Rep K H v d
  | _, _, .nil, h => by cases h
  | _, _, .cons (k := k) h1 h2, h => by
    rw [List.lookup_cons] at h
    rw [List.lookup_cons]
    cases q : n == k with
    | true => rw [q] at h; cases h; exact ⟨_, rfl, h1⟩
    | false => rw [q] at h; exact repF_lookup h2 h
/-- error.n -/
theorem c_xf {X : Cx} {C : Addr} {n : Str} {pn : List (Addr × Obj)} {d : VL.D} {dx : Addr} (T : XfC X.K C) (hno : PySem.W.findIn X.K (.ref C) n = some none) (hz : Zc (.ref C) (some dx) oe) (hf : ∃ vs, oe.data = .fields vs)
    (he : CE (X.suite a ((a, oe) :: pn)) ρ e (.exc a dx fs) ρ1) (hl : fs.lookup n = some d) (hb : attributeBase e n X.env (eval e X.env) = eval e X.env := by rfl) : CE (X.suite a ((a, oe) :: pn)) ρ (.Attribute e n pos) d ρ1 :=
  .of (pe_xf T hno hz hf pe_tw hb) ⟨he.1, fun F O σ H Q I q => he.2 F O σ H _ I fun v H1 J r => by
    cases r with
    | exc h1 h2 =>
      obtain ⟨u, e1, e2⟩ := repF_lookup h2 hl
      exact ⟨rfl, rfl, _, _, u, rfl, hid_ex _ _ h1, e1, q _ _ J e2⟩⟩
end

/-! ### the comprehension there -/
section
variable {X : Cx} {e a b c tg elt iter : Expr} {es ifs : List Expr} {ρ ρ1 ρ2 ρ3 ρ' : Lo} {x y d : VL.D} {pos p p2 : Pos} {ds es' : List VL.D} {scope : Scope} {own : List (Str × Nat)}
theorem pe_lcH {wi : TI} {g : TG} {tt : TT} {te : TE} (hc : HotC X) (hN : X.N.Nodup) (hi : PIH X tg iter wi) (ok : BlkOk X.N X.env.scope scope own)
    (hg : ∀ (pins : List (Addr × Obj)) (s : Shared) (H : Hp) (C : Addr) (cl : List (Str × Addr)) (fp : List Addr), PG (blkH X pins s H scope (compEnvC scope cl C X.env) fp) tg g) (ht : ∀ (pins : List (Addr × Obj)) (s : Shared) (H : Hp) (C : Addr) (cl : List (Str × Addr)) (fp : List Addr), PTs (blkH X pins s H scope (compEnvC scope cl C X.env) fp) ifs tt)
    (he : ∀ (pins : List (Addr × Obj)) (s : Shared) (H : Hp) (C : Addr) (cl : List (Str × Addr)) (fp : List Addr), PE (blkH X pins s H scope (compEnvC scope cl C X.env) fp) elt te) (hs : ∀ x, foldedSetIterable iter X.env x = pure x := by intro _; rfl) :
    PE X (.ListComp elt [⟨tg, iter, ifs, 0⟩] scope pos) (tLc wi g tt te (own.map (·.2))) := by
  refine ⟨fun pins s σ H Q I h => ?_⟩
  rw [eval_ListComp]
  refine lc_coreH hc hN I hi ok (hg pins) (ht pins) (he pins) hs h fun D C s' m H' I' q hn f => ⟨m, hn, fun h'' sb => ?_⟩
  obtain ⟨f0, f1, f2, f3, f4, f5⟩ := f
  exact ⟨.ref D, H', I'.turned (t' := s'.toks) (fun b o hb e => (sb.2 b hb).trans e) f0 f1 f3 f4 f5, rfl, q⟩
theorem ps_setLcH {i : Nat} {y : Str} {py spos : Pos} {wi : TI} {g : TG} {tt : TT} {te : TE} (hc : HotC X) (hN : X.N.Nodup) (hy : X.N[i]? = some y) (hyl : X.env.scope.names.lookup y = some .local)
    (hsw : swapsWith (.ListComp elt [⟨tg, iter, ifs, 0⟩] scope pos) (some (.Name y py)) spos.line X.env = pure true) (hi : PIH X tg iter wi) (ok : BlkOk X.N X.env.scope scope own)
    (hg : ∀ (pins : List (Addr × Obj)) (s : Shared) (H : Hp) (C : Addr) (cl : List (Str × Addr)) (fp : List Addr), PG (blkH X pins s H scope (compEnvC scope cl C X.env) fp) tg g) (ht : ∀ (pins : List (Addr × Obj)) (s : Shared) (H : Hp) (C : Addr) (cl : List (Str × Addr)) (fp : List Addr), PTs (blkH X pins s H scope (compEnvC scope cl C X.env) fp) ifs tt)
    (he : ∀ (pins : List (Addr × Obj)) (s : Shared) (H : Hp) (C : Addr) (cl : List (Str × Addr)) (fp : List Addr), PE (blkH X pins s H scope (compEnvC scope cl C X.env) fp) elt te) (hs : ∀ x, foldedSetIterable iter X.env x = pure x := by intro _; rfl) :
    PS X (.Assign [.Name y py] (.ListComp elt [⟨tg, iter, ifs, 0⟩] scope pos) spos) (tAsg (tLc wi g tt te (own.map (·.2))) (gName i)) := by
  refine ⟨fun pins s σ H D I h => ?_⟩
  rw [exec_Assign_Name_used _ _ _ _ hsw]
  refine wpAny_bind (wpAny_standAt (wpAny_bind ?_))
  show wpAny _ X.A (do let _ ← comprehension (.ListComp elt [⟨tg, iter, ifs, 0⟩] scope pos) scope X.env (firstIterPos [⟨tg, iter, ifs, 0⟩] pos) (newList []) false (eval iter X.env) (some (assign (.Name y py) X.env))) _ _ s
  have h : tLc wi g tt te (own.map (·.2)) σ H (fun x H1 => gName i x σ H1 D.nx) := h
  refine wpAny_bind (thn (lc_coreH (Qf := fun _ s' => SP X pins D .next s') hc hN I hi ok (hg pins) (ht pins) (he pins) hs h fun L C s' m H' I' q hn f => ?_) fun _ s' hq => wpAny_pure (wpAny_pure hq))
  show wpAny _ _ (assign (.Name y py) X.env (.ref L)) _ _ _
  refine wpAny_assign_Name (store_ok2 (v := V.ref L) I' hN hy (.inl hyl) rfl (fun s2 I2 ⟨a, sb, ha⟩ => ?_) (.inr hyl))
  obtain ⟨f0, f1, f2, f3, f4, f5⟩ := f
  have haC : C ≠ a := by
    rcases ha with z | z
    · rw [z]; exact f1
    · exact fun e => f4 y a z e.symm
  refine ⟨m, hn.sameBut sb haC, fun h3 sb3 => ?_⟩
  exact ⟨_, H', I2.turned (t' := s2.toks) (fun b o hb e => (sb3.2 b hb).trans e) f0 f1 f3 f4 f5, q⟩
abbrev InBH (X : Cx) (scope : Scope) (P : Cx → Prop) : Prop := ∀ (pins : List (Addr × Obj)) (s : Shared) (H' : Hp) (C : Addr) (cl : List (Str × Addr)) (fp : List Addr), P (blkH X pins s H' scope (compEnvC scope cl C X.env) fp)
def twBH (X : Cx) (scope : Scope) (e : Expr) : TE := fun σ H Q => InBH X scope fun Y => tw Y e σ H Q
def twTBH (X : Cx) (scope : Scope) (e : Expr) : TT := fun σ H Q => InBH X scope fun Y => twT Y e σ H Q
theorem pe_twBH {pins : List (Addr × Obj)} {s : Shared} {H' : Hp} {C : Addr} {cl : List (Str × Addr)} {fp : List Addr} : PE (blkH X pins s H' scope (compEnvC scope cl C X.env) fp) e (twBH X scope e) := ⟨fun q s σ H Q I h => h _ _ _ _ _ _ q s I⟩
theorem pt_twBH {pins : List (Addr × Obj)} {s : Shared} {H' : Hp} {C : Addr} {cl : List (Str × Addr)} {fp : List Addr} : PT (blkH X pins s H' scope (compEnvC scope cl C X.env) fp) e (twTBH X scope e) := ⟨fun q s σ H Q I h => h _ _ _ _ _ _ q s I⟩
theorem ev_twBH (h : InBH X scope fun Y => CE Y ρ e d ρ1) (ho : owns ρ1 = owns ρ) : EV X.K (twBH X scope e) ρ d ρ1 := ⟨ho, fun F O σ H Q I q pins s H' C cl fp => (h pins s H' C cl fp).2 F O σ H Q I q⟩
theorem et_twBH {k : Bool} (h : InBH X scope fun Y => CT Y ρ e k ρ1) (ho : owns ρ1 = owns ρ) : ET X.K (twTBH X scope e) ρ k ρ1 := ⟨ho, fun F O σ H Q I q pins s H' C cl fp => (h pins s H' C cl fp).2 F O σ H Q I q⟩
/-- [elt for tg in e if cond], e a list -/
theorem l_lcH {T : Tg} {cond : Expr} (f : VL.D → VL.D) (g : VL.D → Bool) (ha : CE X ρ e (.lst ds) ρ1) (own : List (Str × Nat)) (hc : HotC X) (hN : X.N.Nodup) (ok : BlkOk X.N X.env.scope scope own) (hg : InBH X scope fun Y => PG Y tg (gOf X.K T)) (hT : ∀ k ∈ T.slots, k ∈ own.map (·.2)) (hn : noMut ρ1 (own.map (·.2)))
    (hs : ∀ (i : Nat) d, ds[i]? = some d → ∃ ρ2, Bind T d (wipeL ρ1 (own.map (·.2))) ρ2 ∧ (∀ (k : Nat) p es, ρ1[k]? = some (.mut p es) → ρ2[k]? = some (.mut p es)) ∧ (InBH X scope fun Y => CT Y ρ2 cond (g d) ρ2) ∧ (g d = true → InBH X scope fun Y => CE Y ρ2 elt (f d) ρ2))
    (hl : ds.length < sizeLine) (hfs : ∀ x, foldedSetIterable e X.env x = pure x := by intro _; rfl) : CL X ρ elt tg e [cond] scope ((ds.filter g).map f) ρ1 := by
  refine ⟨_, fun pos => pe_lcH hc hN (pi_listH pe_tw) ok hg (fun _ _ _ _ _ _ => pts_one pt_twBH) (fun _ _ _ _ _ _ => pe_twBH) hfs, fun i y py pos spos hy hyl hsw => ps_setLcH hc hN hy hyl hsw (pi_listH pe_tw) ok hg (fun _ _ _ _ _ _ => pts_one pt_twBH) (fun _ _ _ _ _ _ => pe_twBH) hfs, en_lcR (T := T) (tt := twTBH X scope cond) (te := twBH X scope elt) ha.1
    (fun F O σ H R I k => ha.2 F O σ H _ I fun v H1 J r => by
      cases r with
      | lst h1 rs => exact ⟨_, rfl, ⟨_, .of (hid_ex _ _ h1)⟩, k _ H1 J (wk_list h1 rs)⟩)
    (fun i ρi acc => ρi = ρ1 ∧ acc = ((ds.take i).filter g).map f) hT hn ⟨rfl, rfl⟩ (fun i d ρi acc hd _ hJ => ?_) (fun ρn acc _ hJ => ⟨hJ.1, by rw [hJ.2, List.take_length]⟩) rfl⟩
  obtain ⟨rfl, rfl⟩ := hJ
  obtain ⟨ρ2, hb, hm, ht, he⟩ := hs i d hd
  have hi : i < ds.length := (List.getElem?_eq_some_iff.mp hd).1
  have tk : ds.take (i + 1) = ds.take i ++ [d] := by rw [List.take_add_one, hd]; rfl
  refine ⟨ρ2, g d, ρ2, hb, et_twBH ht rfl, fun hk => ⟨f d, ρ2, ρi, ev_twBH (he hk) rfl, Like.refl, hm, ?_, rfl, ?_⟩, fun hk => ⟨ρi, Like.refl, hm, rfl, ?_⟩⟩
  · rw [List.length_map]
    exact Nat.lt_of_le_of_lt (Nat.le_trans (List.length_filter_le _ _) (by rw [List.length_take]; omega)) hl
  · rw [tk, List.filter_append, List.map_append]
    simp [hk]
  · rw [tk, List.filter_append, List.map_append]
    simp [hk]
theorem tg_tpH {Y : Cx} {es : List Expr} {k : Nat} {l : List Tg} (hc : HotC Y) (h : PGs Y es (gsOf Y.K l)) (hn : (assignEach es Y.env).length = l.length := by rfl) (hst : (assignEach es Y.env).findIdx? (·.1) = none := by rfl) : PG Y (.Tuple es k pos) (gOf Y.K (.tp l)) := pg_tupH hc h hn hst
end
end VLH
end

section
set_option Elab.async false
set_option linter.all false
set_option maxRecDepth 100000
set_option maxHeartbeats 4000000
/-! a lambda handed to a def that calls it in a try -/
namespace VLH
open PySem PySem.Spec PyProof.Rows L2 HotX VL LamX
open L2H (HotC TurnH PIH PIEH HotC.at Hot1)
/-- the context of the lambda's body -/
abbrev lamCxN (X : Cx) (A : Around) (outer : List Env) (s : Shared) (H : Hp) (E : XK) (scope : Scope) (f c' : Addr) : Cx :=
  (lamCx X A outer s H E scope f c').wish fun e s' => wpAny (model X.prog X.w) (A.deeper (lamEnv X scope s.heap.objs.size f c')) (leaving (lamEnv X scope s.heap.objs.size f c') e) (fun _ s'' => L2N.CX X.prog X.w outer H s E e s'') (fun e' s'' => L2N.CX X.prog X.w outer H s E e' s'') s'
theorem takes_lam {X : Cx} {A : Around} {outer : List Env} {s : Shared} {H : Hp} {E : XK} {scope : Scope} {f c' : Addr} : L2N.Takes (lamCxN X A outer s H E scope f c') (fun cls d _ H => E cls d H) := L2N.takes_of rfl rfl rfl rfl
section
variable {X : Cx} {pins : List (Addr × Obj)} {σ : L2.St} {H HZ : Hp} {s s1 : Shared}
/-- x(), in the def that got the lambda -/
theorem pe_actN {CXg : CXT} {Eg : XK} {Ng : List Str} {qg : Str} {sg : Scope} {g f c' : Addr} {cdg pm ctv : Value} {params : Arguments} {body : Expr} {scope : Scope} {k i : Nat} {a : Str} {pn : List (Addr × Obj)} {xe : Value → Shared → Prop} {W : WX} {E : XK} {tb : TE} {p1 p2 : Pos}
    (I : Inv X pins σ H s) (L : LamS X.env.scope scope) (hf : s.heap.get? f = some (PySem.W.kla_obj "<lambda>" (X.env.qual ++ "<lambda>") params body scope (cloFrom X.env.cells scope.names []) pm c' ctv)) (hfn : H f = none) (hfr : f ∉ frs X.stack)
    (hbind : bindArgs (PySem.W.kla_fn "<lambda>" (X.env.qual ++ "<lambda>") params body scope (cloFrom X.env.cells scope.names []) pm (.ref c') ctv) ⟨[], []⟩ = pure [])
    (tk : L2N.Takes ((cxOf CXg X.prog X.w X.K X.mg X.base Ng qg sg g cdg X.A X.stack s H Eg).tr pn xe) W) (hW : ∀ cls d σ' H', E cls d H' → W cls d σ' H') (hr : VL.Room (k + 1) (X.A.deeper (envOfC qg sg s.heap.objs.size g cdg)))
    (hbody : ∀ (A : Around) (outer : List Env) (s : Shared) (H : Hp), VL.Room k (A.deeper (lamEnv X scope s.heap.objs.size f c')) → PE (lamCxN X A outer s H E scope f c') body tb)
    (hN : Ng[i]? = some a) (hv : Vis sg a) (hd : (a == ("__debug__" : Str)) = false := by decide) (hcd : (a == ("__classdict__" : Str)) = false := by decide) :
    PE ((cxOf CXg X.prog X.w X.K X.mg X.base Ng qg sg g cdg X.A X.stack s H Eg).tr pn xe) (.Call (.Name a p1) [] [] p2)
      (fun σZ HZ Q => σZ[i]? = some (some (.ref f)) ∧ HZ c' = some (CodeO c' (X.env.qual ++ "<lambda>")) ∧ tb σ HZ Q) := by
  refine ⟨fun pinsZ sZ σZ HZ Q IZ h => ?_⟩
  obtain ⟨hs, hc, ht⟩ := h
  refine wpAny_Call_Name_kw (thn ((pe_var (pos := p1) (i := i) hN hv hd hcd).run pinsZ sZ σZ HZ (fun v H1 => v = .ref f ∧ H1 = HZ) IZ ⟨.ref f, hs, rfl, rfl⟩) fun u s1 ⟨v, H1, I1, r1, q1⟩ => ?_)
  obtain ⟨ev, eH⟩ := q1
  subst ev
  rw [eH] at I1
  obtain rfl : u = Value.ref f := r1
  have of1 : s1.heap.get? f = some (PySem.W.kla_obj "<lambda>" (X.env.qual ++ "<lambda>") params body scope (cloFrom X.env.cells scope.names []) pm c' ctv) := I1.base.keep f _ hf hfn hfr (fun z => nomatch (show f ∈ ([] : List Addr) from z))
  refine PySem.W.callWith_F0 ⟨_, _, _, _, of1⟩ ?_
  have un : Un (frs X.stack) [] H HZ s.heap s1.heap := I1.base
  obtain ⟨⟨oc, vs, t, hoc, hdc, hvc⟩, _, _⟩ := I1.hok c' _ hc
  have rc : codeAny (model X.prog X.w) (X.A.deeper (envOfC qg sg s.heap.objs.size g cdg)) (.call (.ref f) ⟨[], []⟩) (CR (L2N.CX X.prog X.w) (envOfC qg sg s.heap.objs.size g cdg :: X.stack) X.prog X.w HZ s1 Q E) s1 := by
    refine PySem.W.kla_callFunE hr.depth of1 rfl L.co L.gen rfl ⟨c', oc, vs, t, rfl, hoc, hdc, hvc⟩ ?_
    rw [hbind]
    refine wpAny_pure (wpAny_newFunctionEnv (fun y hy => (L.own y hy).2) (fun y hy => absurd hy (by simp)) (fun h₁ hns hsb => ⟨I1.nolimit.fresh _ hsb, ?_⟩) L.kind)
    show codeAny _ _ (.expr body (lamEnv X scope s1.heap.objs.size f c')) _ _
    have kp : ∀ b o, s1.heap.get? b = some o → h₁.get? b = some o := fun b o e => hsb.extBut b o (Nat.ne_of_lt (Heap.lt_size e)) (Heap.get?_push_of_some _ e)
    have J0 : Inv (lamCx X (X.A.deeper (envOfC qg sg s.heap.objs.size g cdg)) (envOfC qg sg s.heap.objs.size g cdg :: X.stack) s1 HZ E scope f c') [] σ HZ { s1 with heap := h₁, toks := s1.toks + ([] : List (Str × Value)).length } :=
      lam_start2 I L I1.env0 hr.hd un hns kp
    have J : Inv (lamCxN X (X.A.deeper (envOfC qg sg s.heap.objs.size g cdg)) (envOfC qg sg s.heap.objs.size g cdg :: X.stack) s1 HZ E scope f c') [] σ HZ { s1 with heap := h₁, toks := s1.toks + ([] : List (Str × Value)).length } := J0.wish _
    refine PySem.W.kla_codeExpr (wpAny_mono ((hbody _ _ s1 HZ (hr.deeper _)).run [] _ _ HZ Q J ht) (fun v s' hq => ?_) fun e s' hq => hq)
    obtain ⟨w', H', J', rv, q⟩ := hq
    exact ⟨w', H', J'.os, J'.bare, J'.base, J'.hok, rv, q⟩
  have hx : Passes (L2N.CX X.prog X.w) ((cxOf CXg X.prog X.w X.K X.mg X.base Ng qg sg g cdg X.A X.stack s H Eg).tr pn xe) E := L2N.passes_call tk hW
  refine wpAny_call (codeAny_mono rc fun r s' hq => ?_)
  cases r with
  | error e => exact hx pinsZ σZ HZ s1 e s' I1 hq
  | ok fl =>
    cases fl with
    | ret u => exact I1.after hq
    | next => exact False.elim hq
    | brk => exact False.elim hq
    | cont => exact False.elim hq
end
/-- the def that calls what it got: TT: what it makes of the lambda's reading -/
def GivesToN (X : Cx) (Ng : List Str) (x : Str) (sg : Scope) (g : Addr) (cdg : Value) (bg : List Stmt) (a : Str) (q : Str) (TT : (XK → Hp → VK → Prop) → Hp → VK → Prop) : Prop :=
  ∀ (f c' : Addr) (s : Shared) (H : Hp) (Q : VK) (tl : XK → Hp → VK → Prop),
    (∀ (W : WX) (pn : List (Addr × Obj)) (xe : Value → Shared → Prop) (E : XK) (p1 p2 : Pos), L2N.Takes ((cxOf C8.CX0 X.prog X.w X.K X.mg X.base Ng x sg g cdg X.A X.stack s H C8.E0).tr pn xe) W → (∀ cls d σ' H', E cls d H' → W cls d σ' H') →
      PE ((cxOf C8.CX0 X.prog X.w X.K X.mg X.base Ng x sg g cdg X.A X.stack s H C8.E0).tr pn xe) (.Call (.Name a p1) [] [] p2) (fun σZ HZ Q => σZ[0]? = some (some (.ref f)) ∧ HZ c' = some (CodeO c' q) ∧ tl E HZ Q)) →
    H c' = some (CodeO c' q) → TT tl H Q → VL.Room 2 X.A →
    ∃ t, PSs (cxOf C8.CX0 X.prog X.w X.K X.mg X.base Ng x sg g cdg X.A X.stack s H C8.E0).nox bg t ∧ t { nx := fun _ H' => Q .non H', rt := Q } (L2.start Ng [.ref f]) H
section
variable {X : Cx}
/-- x(lambda: body) -/
theorem pe_lamcallN {T : List (Addr × Str)} {TT : (XK → Hp → VK → Prop) → Hp → VK → Prop} {x a : Str} {g c P : Addr} {k : Nat} {pg : Arguments} {bg : List Stmt} {sg : Scope} {dV kV doc pm cdv ct oc : Value} {an od : Option Addr} {osl : Array (Option Value)} {Ng : List Str}
    {params : Arguments} {body : Expr} {scope : Scope} {t : XK → TE} {p lpos pos : Pos} (hg : Gl X x) (hm : X.mg x = some (.ref g)) (hk : PySem.W.keepIn X.K (.ref g) = true)
    (lk : X.K.lookup g = some ⟨oc, od, .func (PySem.W.fnOf x x pg bg sg dV kV doc pm an cdv ct), osl⟩) (hcg : PySem.W.codeIn X.K cdv x = true) (hb : L2.Binds X.K (PySem.W.fnOf x x pg bg sg dV kV doc pm an cdv ct) [a] []) (Sg : FnScope Ng [a] sg) (hNg : Ng[0]? = some a) (hva : Vis sg a)
    (hG : GivesToN X Ng x sg g cdv bg a (X.env.qual ++ "<lambda>") TT)
    (TB : TabB X.base X.mg c P) (hcode : X.env.code = .ref c) (hmT : (P, X.env.qual ++ "<lambda>") ∈ T) (hu : ∀ p ∈ T, p.1 = P → p.2 = X.env.qual ++ "<lambda>") (hr : VL.Room (k + 2) X.A) (L : LamS X.env.scope scope) (hdef : defaultsOf params X.env = ([], []))
    (hbind : ∀ (q : Str) (cl : List (Str × Addr)) (pm cv ctv : Value), bindArgs (PySem.W.kla_fn "<lambda>" q params body scope cl pm cv ctv) ⟨[], []⟩ = pure [])
    (hbody : ∀ (A : Around) (outer : List Env) (s : Shared) (H : Hp) (E : XK) (f c' : Addr), VL.Room k (A.deeper (lamEnv X scope s.heap.objs.size f c')) → PE (lamCxN X A outer s H E scope f c') body (t E))
    (hdb : (x == ("__debug__" : Str)) = false := by decide) (hd : (a == ("__debug__" : Str)) = false := by decide) (hcd : (a == ("__classdict__" : Str)) = false := by decide) :
    PE X (.Call (.Name x p) [.Lambda params body scope lpos] [] pos) (tLam T TT t) := by
  refine ⟨fun pins s σ H Q I h => ?_⟩
  obtain ⟨hT, h⟩ := h
  refine wpAny_Call_Name_kw (ld_glob I hg hm ?_ hdb)
  refine PySem.W.callWith_K (h₀ := X.base) I.ok.mod.kin hk ?_ (by rfl) (by rfl)
  show wpAny _ _ (spliced ((false, eval (.Lambda params body scope lpos) X.env) :: backTo pos (starEach [] X.env))) _ _ s
  refine Calls.spliced_cons (lam_make2 I TB hcode hmT hu hT hdef (L.has I.ok) fun f c' pm' ctv H1 s' I1 eN T1 hf hfn hfr hco => ?_)
  refine Calls.spliced_nil ⟨I1.kIn, ?_⟩
  have rc : codeAny (model X.prog X.w) X.A (.call (.ref g) ⟨[.ref f], []⟩) (CR C8.CX0 X.stack X.prog X.w H1 s' Q C8.E0) s' := by
    refine run_ofS (N := Ng) (ps := [a]) (us := [.ref f]) (vs := [.ref f]) lk hcg Sg hr.toRoom I1.env0 (hb s' [.ref f] I1.kIn rfl) (.cons rfl .nil) rfl fun hr' => ?_
    obtain ⟨t', ht', hq'⟩ := hG f c' s' H1 Q (fun E H' Q' => t E σ H' Q') (fun W pn xe E p1 p2 tk hW => pe_actN (i := 0) I1 L hf hfn hfr (hbind _ _ _ _ _) tk hW (⟨hr', hr.gd⟩ : VL.Room _ _) (fun A outer s H hr2 => hbody A outer s H E f c' hr2) hNg hva hd hcd) hco (h H1 eN T1) (hr.mono (by omega))
    exact ⟨t', ht'.nox, hq'⟩
  refine wpAny_call (codeAny_mono rc fun r s2 hq => ?_)
  cases r with
  | error e => exact (show False from hq).elim
  | ok fl =>
    cases fl with
    | ret u => exact I1.after hq
    | next => exact False.elim hq
    | brk => exact False.elim hq
    | cont => exact False.elim hq
end
theorem sok0 {K : PySem.W.Frag} {F : Hp} {O : Addr → Prop} {H : Hp} (fr : Ex F H) (od : ∀ a, O a → ∃ o, F a = some o) (tb : TB H) (ft : ∀ a o, F a = some o → NT o) : SOk K F O [] [] H :=
  ⟨rfl, fun i d h => by simp at h, fun i p ds h => by simp at h, fun i j p ds ds' h => by simp at h, fr, od, tb, ft⟩
/-- in any slots -/
theorem sokU {K : PySem.W.Frag} {F : Hp} {O : Addr → Prop} {H : Hp} {n : Nat} {σ : L2.St} (I : SOk K F O [] [] H) (h : σ.length = n) : SOk K F O (List.replicate n .un) σ H := by
  have no : ∀ {i : Nat} {s : Sl}, (List.replicate n Sl.un)[i]? = some s → s = .un := fun {i s} h => List.eq_of_mem_replicate (List.mem_of_getElem? h)
  exact ⟨by rw [h, List.length_replicate], fun i d h => (by have := no h; cases this), fun i p ds h => (by have := no h; cases this), fun i j p ds ds' h => (by have := no h; cases this), I.fr, I.od, I.tb, I.ft⟩
theorem owns_rep {n : Nat} {a : Addr} : ¬ owns (List.replicate n .un) a := fun ⟨ds, h⟩ => nomatch (List.eq_of_mem_replicate h)
/-- what the lambda does: r0; what the def answers: dW -/
def TTw (K : PySem.W.Frag) (r0 : Res) (dW : VL.D) : (XK → Hp → VK → Prop) → Hp → VK → Prop := fun tl H Q => ∃ (F : Hp) (O : Addr → Prop), SOk K F O [] [] H ∧
  (∀ E Q', (∀ H', SOk K F O [] [] H' → match r0 with
    | .ok d => ∀ v, Rep K (hid O H') v d → Q' v H'
    | .error e => ∀ cls dd, ErRep K (hid O H') cls dd e → E cls dd H') → tl E H Q') ∧
  ∀ v H', SOk K F O [] [] H' → Rep K (hid O H') v dW → Q v H'
def immutR : Res → Bool
  | .ok d => immut d
  | .error e => immutL (e.fs.map (·.2))
theorem RepF.hide {K : PySem.W.Frag} {H : Hp} {U U' : Addr → Prop} (h : ∀ a, ¬ U a → U' a → ∃ vs, H a = some (.lst vs)) : ∀ {v : List (Str × V)} {d : List (Str × VL.D)}, immutL (d.map (·.2)) = true → RepF K (hid U H) v d → RepF K (hid U' H) v d
  | _, _, _, .nil => .nil
  | _, _, m, .cons q r => by
    rw [List.map_cons] at m
    unfold immutL at m
    rw [Bool.and_eq_true] at m
    exact .cons (Rep.hide h m.1 q) (RepF.hide h m.2 r)
section
variable {X : Cx} {ρ : Lo}
/-- x(lambda: body), where the body reads data alone -/
theorem c_lamcall {r0 : Res} {dW : VL.D} {x a : Str} {g c P : Addr} {k : Nat} {pg : Arguments} {bg : List Stmt} {sg : Scope} {dV kV doc pm cdv ct oc : Value} {an od : Option Addr} {osl : Array (Option Value)} {Ng : List Str}
    {params : Arguments} {body : Expr} {scope : Scope} {p lpos pos : Pos} (him : immutR r0 = true) (hiw : immut dW = true) (hm : X.mg x = some (.ref g)) (hk : PySem.W.keepIn X.K (.ref g) = true)
    (lk : X.K.lookup g = some ⟨oc, od, .func (PySem.W.fnOf x x pg bg sg dV kV doc pm an cdv ct), osl⟩) (hcg : PySem.W.codeIn X.K cdv x = true) (hb : L2.Binds X.K (PySem.W.fnOf x x pg bg sg dV kV doc pm an cdv ct) [a] []) (Sg : FnScope Ng [a] sg) (hNg : Ng[0]? = some a) (hva : Vis sg a)
    (hG : GivesToN X Ng x sg g cdv bg a (X.env.qual ++ "<lambda>") (TTw X.K r0 dW))
    (TB : TabB X.base X.mg c P) (hcode : X.env.code = .ref c) (hmT : (P, X.env.qual ++ "<lambda>") ∈ lamT) (hu : ∀ p ∈ lamT, p.1 = P → p.2 = X.env.qual ++ "<lambda>") (hr : VL.Room (k + 2) X.A)
    (hbody : ∀ (A : Around) (outer : List Env) (s : Shared) (H : Hp) (E : XK) (f c' : Addr), VL.Room k (A.deeper (lamEnv X scope s.heap.objs.size f c')) → CQ (lamCxN X A outer s H E scope f c') (frz ρ) body fun r ρ' => r = r0 ∧ ρ' = frz ρ)
    (L : LamS X.env.scope scope) (hdef : defaultsOf params X.env = ([], [])) (hbind : ∀ (q : Str) (cl : List (Str × Addr)) (pm cv ctv : Value), bindArgs (PySem.W.kla_fn "<lambda>" q params body scope cl pm cv ctv) ⟨[], []⟩ = pure [])
    (hg : Gl X x := by rfl) (hdb : (x == ("__debug__" : Str)) = false := by decide) (hd : (a == ("__debug__" : Str)) = false := by decide) (hcd : (a == ("__classdict__" : Str)) = false := by decide) :
    CE X ρ (.Call (.Name x p) [.Lambda params body scope lpos] [] pos) dW ρ := by
  refine .of (pe_lamcallN (T := lamT) (t := fun E σ H Q => ∀ (A : Around) (outer : List Env) (s : Shared) (H0 : Hp) (f c' : Addr), VL.Room k (A.deeper (lamEnv X scope s.heap.objs.size f c')) → tw (lamCxN X A outer s H0 E scope f c') body σ H Q)
    hg hm hk lk hcg hb Sg hNg hva hG TB hcode hmT hu hr L hdef hbind (fun A outer s H E f c' hr' => ⟨fun pins s1 σ H1 Q I h => h A outer s H f c' hr' pins s1 I⟩) hdb hd hcd) ⟨rfl, fun F O σ H Q I q => ⟨I.tb, fun H1 eN T1 => ?_⟩⟩
  have e1 : ExN H H1 := fun b o t h => eN b o h t.nt
  have I1 := I.ext e1 T1
  have hide : ∀ {H' : Hp}, SOk X.K F O ρ σ H' → ∀ a, ¬ UU O (frz ρ) a → UU O ρ a → ∃ vs, H' a = some (.lst vs) := fun {H'} J a n z => by
    rcases z with z | z
    · exact absurd (.inl z) n
    · exact J.ownH z
  refine ⟨hid (fun _ => False) H1, UU O ρ, sok0 hid_ex (fun a z => ?_) T1 (fun _ _ h => nt_hid h), fun E Q' hh A outer s H0 f c' hr' => ?_, fun v H' J rv => ?_⟩
  · obtain ⟨o, h1, t⟩ := I1.odU a z
    exact ⟨o, hid_of id h1⟩
  · have I2 := I1.frzAll.sup
    refine fun pins s1 J => hbody A outer s H0 E f c' hr' _ O σ H1 Q' (fun cls d _ H => E cls d H) I2 takes_lam (fun d ρ' v H' hR _ J' rv => ?_) (fun er ρ' H' cls dd hR J' re => ?_) pins s1 J
    · obtain ⟨hR, rfl⟩ := hR
      subst hR
      have e2 := Ex.frzSup J'
      have I3 := I1.ext e2 J'.tb
      have := hh H' (sok0 (fun a o h => by
        have t := nt_hid h
        exact e2 a o t (of_hid h).2) (fun a z => by
          obtain ⟨o, h1, t⟩ := I1.odU a z
          exact ⟨o, hid_of id h1⟩) J'.tb (fun _ _ h => nt_hid h))
      exact this v (Rep.hide (hide I3) him rv)
    · obtain ⟨hR, rfl⟩ := hR
      subst hR
      have e2 := Ex.frzSup J'
      have I3 := I1.ext e2 J'.tb
      have := hh H' (sok0 (fun a o h => by
        have t := nt_hid h
        exact e2 a o t (of_hid h).2) (fun a z => by
          obtain ⟨o, h1, t⟩ := I1.odU a z
          exact ⟨o, hid_of id h1⟩) J'.tb (fun _ _ h => nt_hid h))
      obtain ⟨r1, r2⟩ := re
      refine this cls dd ⟨r1, ?_⟩
      rcases r2 with r2 | ⟨aa, fv, h7, h8, h9⟩
      · exact .inl r2
      · have t := nt_hid h8
        refine .inr ⟨aa, fv, h7, hid_of (fun z => ?_) (of_hid h8).2, RepF.hide (hide I3) him h9⟩
        obtain ⟨n8, q8⟩ := of_hid h8
        obtain ⟨vs, e⟩ := hide I3 aa n8 z
        rw [e] at q8
        cases q8
  · have e2 : ExN H1 H' := fun a o t h => J.fr a o (hid_of id h)
    exact q v H' (I1.ext e2 J.tb) rv
end
/-- try: a() / except CS as n: suite; return ret -/
theorem word_gives {X : Cx} {Ng : List Str} {x a e n q ret : Str} {sg : Scope} {g CS : Addr} {cdg : Value} {b₀ : Stmt} {suite : List Stmt} {iE : Nat} {r0 : Res} {dW : VL.D} {j : Nat} {p1 p2 p3 p4 p7 p8 p9 p10 : Pos}
    (hge : sg.names.lookup e = some .globalImplicit) (hme : X.mg e = some (.ref CS)) (hde : (e == ("__debug__" : Str)) = false) (h0 : ∀ f : Addr, (L2.start Ng [V.ref f])[0]? = some (some (V.ref f))) (hN : Ng.Nodup) (hi : Ng[iE]? = some n) (hln : sg.names.lookup n = some .cell)
    (hok : ∀ d, r0 = .ok d → dW = .str ret)
    (herr : ∀ er, r0 = .error er → PySem.W.exmOne X.K (.ref er.C) (.ref CS) = some true ∧ ∀ (s : Shared) (H : Hp) (aE : Addr) (oe : Obj) (dd : Option Addr) (pn : List (Addr × Obj)), L2N.Zn (.ref er.C) dd oe → (∃ vs, oe.data = .fields vs) → (dd = none → er.fs = []) →
      CSs ((cxOf C8.CX0 X.prog X.w X.K X.mg X.base Ng x sg g cdg X.A X.stack s H C8.E0).nox.suite aE ((aE, oe) :: pn)) ((List.replicate Ng.length Sl.un).set iE (.dat (exD aE dd er.fs))) (b₀ :: suite) { nx := fun _ => False, rt := fun d _ => d = dW }) :
    GivesToN X Ng x sg g cdg [.Try [.Expr (.Call (.Name a p1) [] [] p2) p3] [.ExceptHandler (some (.Name e p4)) (some n) (b₀ :: suite) p7] [] [] p8, .Return (some (.Constant (.str ret) j p9)) p10] a q (TTw X.K r0 dW) := by
  intro f c' s H Q tl act hc h hr
  obtain ⟨F, O, I, htl, hQ⟩ := h
  generalize hY : (cxOf C8.CX0 X.prog X.w X.K X.mg X.base Ng x sg g cdg X.A X.stack s H C8.E0).nox = Y
  have hgl : Gl Y e := by rw [← hY]; exact hge
  have hYK : Y.K = X.K := by rw [← hY]; rfl
  have hYN : Y.N = Ng := by rw [← hY]; rfl
  have eu : ∀ a, UU O (List.replicate Ng.length .un) a ↔ O a := fun a => ⟨fun z => z.elim id fun z => absurd z owns_rep, .inl⟩
  refine ⟨_, pss_cons (ps_try_asC (X := Y) (c := .ref CS) (i := iE) (Wout := fun _ _ _ _ => False)
      (tb := fun W D σ HZ => ∃ Ech : XK, (∀ cls d σ' H', Ech cls d H' → W cls d σ' H') ∧ σ[0]? = some (some (.ref f)) ∧ HZ c' = some (CodeO c' q) ∧ tl Ech HZ fun _ H' => D.nx σ H')
      (ts := fun aE cls dd D σ H => ∀ oe pn, L2N.Zn cls dd oe → (∃ vs, oe.data = .fields vs) → twss (Y.suite aE ((aE, oe) :: pn)) (b₀ :: suite) D σ H)
      (by rw [← hY]; rfl) (by rw [← hY]; rfl) (by rw [hYN]; exact hN) (by rw [hYN]; exact hi) (by rw [← hY]; exact hln) (by rw [← hY]; rfl) ⟨hgl, hde, .inl (by rw [← hY]; exact hme)⟩ (fun _ _ x => by
        obtain ⟨_, _, _, _, _, _, _, _, _, _, _, _, _, _, _, _, z⟩ := x
        exact z.elim)
      (fun W pn xe tk _ => ?_) (fun aE oe cls dd pn hz hf => ⟨fun pins s σ H D I h => h oe pn hz hf pins s I⟩)) (pss_one (ps_ret (pe_str (x := ret)))), ?_⟩
  · refine pss_one ⟨fun pins s' σ H' D I h' => ?_⟩
    obtain ⟨Ech, hW, h1, h2, h3⟩ := h'
    subst hY
    have hp := act W pn xe Ech p1 p2 tk hW
    exact (ps_expr (pos := p3) hp).run pins s' σ H' D I ⟨h1, h2, h3⟩
  · refine ⟨fun cls dd H' => ∃ er, r0 = .error er ∧ SOk X.K F O [] [] H' ∧ ErRep X.K (hid O H') cls dd er, fun cls dd σ' H' ⟨er, e1, J, re⟩ => ?_, h0 f, hc, htl _ _ fun H' J => ?_⟩
    · obtain ⟨hx, hsu⟩ := herr er e1
      have ec : cls = .ref er.C := re.1
      subst ec
      refine ⟨true, by rw [hYK]; exact hx, fun _ aE na oe pn hz hf pins s2 I2 => ?_, fun z => Bool.noConfusion z⟩
      have hlen : (σ'.set iE (some (.ref aE))).length = Ng.length := by
        have := I2.len
        rw [this]
        show Y.N.length = _
        rw [hYN]
      have hdd : dd = none → er.fs = [] := fun z => by
        obtain ⟨_, ⟨z1, z2⟩ | ⟨d1, f1, z1, z2, z3⟩⟩ := re
        · exact z1
        · rw [z] at z1; cases z1
      have hsl : σ'.length = Ng.length := by rw [List.length_set] at hlen; exact hlen
      have S0 : SOk X.K F O (List.replicate Ng.length .un) σ' H' := sokU J hsl
      have S1 := S0.set (i := iE) (v := .ref aE) (d := exD aE dd er.fs) (by
        rw [hid_congr eu]
        exact rep_exD (C := er.C) (cls := .ref er.C) re)
      subst hY
      refine hsu s H aE oe dd pn hz hf hdd F O _ H' _ S1 ⟨fun _ _ _ z _ => z.elim, fun d ρ' σ2 H2 v hd J2 rv => ?_, fun _ _ _ z _ => z.elim, fun _ _ _ z _ => z.elim, fun _ _ _ _ => False, fun _ _ x => ?_, fun _ _ _ _ _ _ z => z.elim⟩ pins s2 I2
      · subst hd
        exact hQ v H2 (sok0 J2.fr J2.od J2.tb J2.ft) (rv.mono (ex_hid fun a o _ n h => ⟨fun z => n (.inl z), h⟩))
      · obtain ⟨_, _, _, _, _, _, _, _, _, _, _, _, _, _, _, _, z⟩ := x
        exact z.elim
    · cases r0 with
      | ok d =>
        have e1 := hok d rfl
        subst e1
        exact fun v rv => hQ _ _ J (.str ret)
      | error er => exact fun cls dd re => ⟨er, rfl, J, re⟩
end VLH
end

section
set_option Elab.async false
set_option linter.all false
set_option maxRecDepth 100000
set_option maxHeartbeats 4000000
/-! wide ranges, dict displays, defs that hand out a new list -/
namespace VL
open PySem PySem.Spec PyProof.Rows L2
theorem turn_long {P : Program} {w : World} {K : PySem.W.Frag} {tg : Expr} (it : Addr) (lo : Int) (n : Nat) : Turn P w K tg (Itr lo n) [it] it (fun i h => IsLongIter h it (lo + (i : Nat) * 1) ((n : Int) - (i : Nat)) 1) where
  mem := by simp
  obj := fun i h st b hb => by
    have e : b = it := by simpa using hb
    subst e
    exact ⟨_, st, fun v z => by
      have z' : Data.fields _ = Data.cell v := z
      cases z'⟩
  keep := fun i h h' st k => k it (by simp) _ st
  item := by
    intro X hP hw hK hc i pins s σ H E I hf st hg
    subst hP hw hK
    obtain ⟨f0, f1, f2, f3, f4, f5⟩ := hf it (by simp)
    have W := Walks.longrange (prog := X.prog) (w := X.w) (I.ok.hd hc) it lo 1 n
    refine W.item i s _ _ hg st fun v h' tk hv st' kk => ?_
    obtain ⟨t, rfl⟩ := hv
    have I1 : Inv X pins σ H { s with heap := h', toks := tk } := I.turned (fun b o hb e => kk b o (by simpa using hb) e) f0 f1 f3 f4 f5
    refine ⟨_, rfl, go_of (s := { s with heap := h', toks := tk }) (n := "longrange_iterator") st' rfl rfl (by decide) ⟨.int (lo + i), H, I1, ⟨t, ?_⟩, ⟨rfl, rfl⟩, st', fun b hb => (hf b hb).1⟩⟩
    rw [Int.mul_one]
  done := by
    intro X hP hw hK hc i pins s σ H E I hf st hg
    subst hP hw hK
    obtain ⟨f0, f1, f2, f3, f4, f5⟩ := hf it (by simp)
    exact wpAny_pyNext_long_end (I.ok.hd hc) st (by have : n ≤ i := hg; omega) fun h' eb => ⟨rfl, I.turned (t' := s.toks) (fun b o hb e => eb b o hb e) f0 f1 f3 f4 f5⟩
  self := fun _ _ _ _ _ st h => wpAny_pyIter_longiter st h
section
variable {X : Cx} {tg a b e c : Expr} {es : List Expr} {p pos : Pos} {ρ ρ1 ρ2 : Lo} {i j : Int} {d : D} {ds es' : List D} {W : WE} {rest : List Stmt} {n x : Str}
def iRng2W (ta : TA) : TI := fun σ H R => ta σ H fun vs H1 => ∃ i j : Int, vs = [.int i, .int j] ∧ R (Itr i (j - i).toNat) H1
theorem range_itW {pins : List (Addr × Obj)} {σ : L2.St} {H : Hp} {s : Shared} {R : It → Hp → Prop} {E : Value → Shared → Prop} {lo hi : Int} {t u v : Tok} {tk : Nat} (I : Inv X pins σ H s)
    (q : R (Itr lo (hi - lo).toNat) H) : wpAny (model X.prog X.w) X.A (pyIter (.ref s.heap.objs.size)) (PIE X pins σ tg R) E { s with heap := s.heap.push { cls := .type "range", data := .fields #[.int lo t, .int hi u, .int 1 v] }, toks := tk } := by
  have I1 : Inv X pins σ H { s with heap := s.heap.push { cls := .type "range", data := .fields #[.int lo t, .int hi u, .int 1 v] }, toks := tk } := I.kept fun b o e => Heap.get?_push_of_some _ e
  have e1 : lo + ((0 : Nat) : Int) * 1 = lo := by simp
  have e2 : (((hi - lo).toNat : Nat) : Int) - ((0 : Nat) : Int) = Builtin.Range.rangeSize lo hi 1 := by rw [rangeSize_one]; split <;> omega
  have fp : ∀ b ∈ [(s.heap.push { cls := .type "range", data := .fields #[.int lo t, .int hi u, .int 1 v] }).objs.size], FpOk X pins H b := fun b hb => by
    have e : b = (s.heap.push { cls := .type "range", data := .fields #[.int lo t, .int hi u, .int 1 v] }).objs.size := by simpa using hb
    subst e
    exact I1.fpOk (Nat.le_refl _) (I1.hok.fresh (Nat.le_refl _))
  by_cases hsm : Builtin.Range.small lo hi 1 = true
  · refine wpAny_pyIter_range (IsRange.new ..) hsm ?_
    refine ⟨(s.heap.push { cls := .type "range", data := .fields #[.int lo t, .int hi u, .int 1 v] }).objs.size, [(s.heap.push { cls := .type "range", data := .fields #[.int lo t, .int hi u, .int 1 v] }).objs.size], _, _, H, rfl,
      I1.kept (t' := tk) fun b o e => Heap.get?_push_of_some _ e, turn_range _ lo (hi - lo).toNat, ?_, fp, q⟩
    show IsRangeIter _ _ (lo + ((0 : Nat) : Int) * 1) ((((hi - lo).toNat : Nat) : Int) - ((0 : Nat) : Int)) 1
    rw [e1, e2]
    exact Heap.get?_push_size _ rfl
  · refine wpAny_pyIter_longrange (IsRange.new ..) (by simpa using hsm) ?_
    refine ⟨(s.heap.push { cls := .type "range", data := .fields #[.int lo t, .int hi u, .int 1 v] }).objs.size, [(s.heap.push { cls := .type "range", data := .fields #[.int lo t, .int hi u, .int 1 v] }).objs.size], _, _, H, rfl,
      I1.kept (t' := tk) fun b o e => Heap.get?_push_of_some _ e, turn_long _ lo (hi - lo).toNat, ?_, fp, q⟩
    show IsLongIter _ _ (lo + ((0 : Nat) : Int) * 1) ((((hi - lo).toNat : Nat) : Int) - ((0 : Nat) : Int)) 1
    rw [e1, e2]
    exact Heap.get?_push_size _ rfl
theorem pi_range2W {ta : TA} (hg : Gl X "range") (hm : X.mg "range" = none) (ha : PA X [a, b] ta) (hs : starEach [a, b] X.env = [(false, eval a X.env), (false, eval b X.env)] := by rfl) (hs2 : starEach [b] X.env = [(false, eval b X.env)] := by rfl) :
    PI X tg (.Call (.Name "range" p) [a, b] [] pos) (iRng2W ta) := by
  refine ⟨fun pins s σ H R I h => ?_⟩
  refine Call_ (ld_blt I hg hm boot_range (PyProof.Rows.callWith_type1 (thn (ha.run pos pins s σ H _ I h) fun us s1 ⟨vs, H1, I1, r1, q1⟩ => ?_) (by rw [hs, hs2]) (by rw [hs2]; rfl)))
  obtain ⟨i, j, e, q⟩ := q1
  subst e
  cases r1 with
  | cons r rr =>
    cases rr with
    | cons r' rr =>
      cases rr
      obtain ⟨t, rfl⟩ := r
      obtain ⟨t', rfl⟩ := r'
      exact call_range_2 (range_itW I1 q)
/-- range(a, b), of any ints -/
theorem ci_range2W (hm : X.mg "range" = none) (ha : CE X ρ a (.int i) ρ1) (hb : CE X ρ1 b (.int j) ρ2) (hg : Gl X "range" := by rfl) (hs : starEach [a, b] X.env = [(false, eval a X.env), (false, eval b X.env)] := by rfl) (hs2 : starEach [b] X.env = [(false, eval b X.env)] := by rfl)
    (he : starEach [a, b] X.env = (false, eval a X.env) :: starEach [b] X.env := by rfl) (he2 : starEach [b] X.env = (false, eval b X.env) :: starEach [] X.env := by rfl) : CI X ρ tg (.Call (.Name "range" p) [a, b] [] pos) (rangeD i (j - i).toNat) ρ2 :=
  ⟨_, pi_range2W hg hm pa_tw hs hs2, hb.1.trans ha.1, fun F O σ H R I k => (d_cons ha (d_cons hb d_nil he2) he).2 F O σ H _ I fun vs H1 J r => by
    obtain ⟨v, w, rfl, ru, rw'⟩ := two_of r
    cases ru
    cases rw'
    exact ⟨i, j, rfl, k _ H1 J wk_range⟩⟩
/-- {} -/
theorem c_dict0 : CE X ρ (.Dict [] [] pos) (.dic []) ρ := .of pe_dnewK ⟨rfl, fun F O σ H Q I q p hp => q _ _ (I.new hp) (.dic (I.newHid hp) .nil)⟩
/-- {k: name} -/
theorem c_dict1 (s : Nat) {k : Int} {jj} {kp : Pos} (hd : ρ[s]? = some (.dat d)) (hN : X.N[s]? = some n := by rfl) (hv : Vis X.env.scope n := by first | exact Or.inl rfl | exact Or.inr (Or.inl rfl) | exact Or.inr (Or.inr rfl))
    (h1 : (n == ("__debug__" : Str)) = false := by decide) (h2 : (n == ("__classdict__" : Str)) = false := by decide) : CE X ρ (.Dict [some (.Constant (.int k) jj kp)] [.Name n p] pos) (.dic [(.inl k, d)]) ρ :=
  .of (pe_disp (pps_cons pe_int (pe_var (i := s) hN hv h1 h2) pps_nil) rfl rfl (by simp) (by show 1 ≤ 15; decide)) ⟨rfl, fun F O σ H Q I q p hp => by
    obtain ⟨v, e1, r1⟩ := I.dat s d hd
    refine ⟨v, e1, upd_same, [(.inl k, v)], rfl, by simp, ?_⟩
    have e : upd (upd H p (.dK [])) p (.dK (mergeK [] [(.inl k, v)])) = upd H p (.dK [(.inl k, v)]) := upd_upd
    rw [e]
    exact q _ _ (I.new hp) (.dic (I.newHid hp) (.cons (r1.mono (ex_new hp)) .nil))⟩
end
/-! ### a def that hands out a new list -/
def spN (K : PySem.W.Frag) (A : List D → List D → Prop) : Sp := fun vs H Q _ => ∃ (U : Addr → Prop) (ds es : List D), (∀ a, U a → ∃ o, H a = some o ∧ NT o) ∧ TB H ∧ Reps K (hid U H) vs ds ∧ A ds es ∧
  ∀ p ws H1, ExN H H1 → TB H1 → H1 p = none → Reps K (hid U H1) ws es → Q (.ref p) (upd H1 p (.lst ws))
structure FnN (P : Program) (w : World) (K : PySem.W.Frag) (mg : Str → Option Value) (base : Heap) (k : Nat) (x : Str) (A : List D → List D → Prop) : Prop where
  ex : ∃ f fd ps, FnOk P w K mg base (L2N.CX P w) k f fd ps (spN K A) ∧ mg x = some (.ref f) ∧ PySem.W.keepIn K (.ref f) = true ∧ Binds K fd ps []
theorem n_call {X : Cx} {e : Expr} {es : List Expr} {ρ ρ1 : Lo} {p pos : Pos} {x : Str} {k : Nat} {ds es' : List D} {A : List D → List D → Prop} (Fn : FnN X.prog X.w X.K X.mg X.base k x A) (hr : Room k X.A) (ha : CD X ρ (e :: es) ds ρ1) (hA : A ds es') (hg : Gl X x := by rfl) (hdb : (x == ("__debug__" : Str)) = false := by decide)
    (he : starEach (e :: es) X.env = (false, eval e X.env) :: starEach es X.env := by rfl) (hpl : (backTo pos (starEach es X.env)).any (·.1) = false := by rfl) : CN X ρ (.Call (.Name x p) (e :: es) [] pos) es' ρ1 := by
  obtain ⟨f, fd, ps, hF, hm, hk, hb⟩ := Fn.ex
  refine .of (pe_call hF hr hg hm hk hb .nil passLN pa_tw hdb he hpl) ⟨ha.1, fun F O σ H Q I q => ha.2 F O σ H _ I fun vs H1 J r => ?_⟩
  rw [List.append_nil]
  exact ⟨UU O ρ1, ds, es', J.odU, J.tb, r, hA, fun p ws H2 e tb hp rs => q p ws H2 (J.ext e tb) hp rs⟩
/-- a body of two statements: s1; return e, e a new list -/
theorem fn_new2 {P : Program} {w : World} {K : PySem.W.Frag} {mg : Str → Option Value} {base : Heap} {k : Nat} {x : Str} {st s1 : Stmt} {e : Expr} {pos : Pos} {f : Addr} {fd : FuncData} {N ps : List Str} {A : List D → List D → Prop} (Fu : Fun K x x st f fd) (Sc : FnScope N ps (defScope st)) (hb : Binds K fd ps []) (hm : mg x = some (.ref f)) (hlen : ∀ ds r, A ds r → ds.length = ps.length)
    (hst : defBody st = [s1, .Return (some e) pos])
    (hbody : ∀ (cdv : Value) (A' : Around) (outer : List Env) (s : Shared) (H : Hp) (E : XK), Room k (cx P w K mg base N x st f cdv A' outer s H E).A → Bd (cx P w K mg base N x st f cdv A' outer s H E) → ∀ ds es, A ds es →
      ∃ t, PS (cx P w K mg base N x st f cdv A' outer s H E) s1 t ∧ ∀ (F : Hp) (O : Addr → Prop) (σ : L2.St) (H1 : Hp) (D : Ends), SOk K F O (ds.map .dat ++ List.replicate (N.length - ps.length) .un) σ H1 →
        (∀ ρ' ρ2 σ' H', CN (cx P w K mg base N x st f cdv A' outer s H E) ρ' e es ρ2 → SOk K F O ρ' σ' H' → D.nx σ' H') → t D σ H1) : FnN P w K mg base (k + 1) x A := by
  refine ⟨f, fd, ps, Fun.okXN Fu Sc (fun vs H Q E h => ?_) (fun cdv A' outer s H vs Q E hr h => ?_), hm, Fu.kp, hb⟩
  · obtain ⟨U, ds, es, _, _, r, a, _⟩ := h
    rw [r.length]
    exact hlen ds es a
  · obtain ⟨U, ds, es, od, tb, r, a, q⟩ := h
    have hl : vs.length = ps.length := by rw [r.length]; exact hlen ds es a
    obtain ⟨t, hp, ht⟩ := hbody cdv A' outer s H E hr (bd_cx Sc.nd) ds es a
    rw [start_eq hl, hst]
    refine ⟨_, pss_cons hp (pss_one (ps_ret pe_tw)), ?_⟩
    have I0 := args_ok r od tb
    refine ht _ U _ H _ (I0.more _) fun ρ' ρ2 σ' H' hc J => ?_
    exact hc.2 _ U σ' H' _ J fun p ws H1 J1 hp rs => q p ws H1 (fun b o t h => J1.fr b o (hid_of owns_dats h)) J1.tb hp (rs.mono (ex_hid fun b o _ n h => ⟨fun z => n (.inl z), h⟩))
/-- name = [..]; return e -/
theorem ps_lcF2 {X : Cx} {ρ ρ1 ρ2 : Lo} {elt tg iter e : Expr} {ifs : List Expr} {scope : Scope} {es es2 : List D} {y : Str} {py pos spos : Pos} (i : Nat) (h : CL X ρ elt tg iter ifs scope es ρ1) (hc : CN X (ρ1.set i (.dat (.lst es))) e es2 ρ2) (hi : X.N[i]? = some y := by rfl) (hx : X.env.scope.names.lookup y = some .local := by rfl)
    (hk : X.env.scope.kind = .function := by rfl) (hli : (py.line == pos.line) = true := by rfl) (ha : (scope.names.any fun (n, k) => n == y && (k == .local || k == .cell)) = false := by rfl) :
    ∃ t, PS X (.Assign [.Name y py] (.ListComp elt [⟨tg, iter, ifs, 0⟩] scope pos) spos) t ∧ ∀ (F : Hp) (O : Addr → Prop) (σ : L2.St) (H1 : Hp) (D : Ends), SOk X.K F O ρ σ H1 → (∀ ρ' ρ2 σ' H', CN X ρ' e es2 ρ2 → SOk X.K F O ρ' σ' H' → D.nx σ' H') → t D σ H1 := by
  obtain ⟨tl, _, h2, h3⟩ := h.ex
  exact ⟨_, h2 i y py pos spos hi hx (sw_true hk hx hli ha), fun F O σ H E I k => h3.2 F O σ H _ I fun q vs H1 J hp rv => k _ _ _ _ hc ((J.new hp).set (.lst (J.newHid hp) (rv.mono (ex_new hp))))⟩
theorem cutD_take (xs : List D) (k : Nat) : cutD xs none (some (k : Nat)) = xs.take k := by
  unfold cutD
  rw [HT.sIx_none, HT.sIx_nat, List.drop_zero, Nat.sub_zero]
  by_cases h : k ≤ xs.length
  · rw [Nat.min_eq_left h]
  · rw [Nat.min_eq_right (by omega), List.take_length, List.take_of_length_le (by omega)]
theorem cutD_drop (xs : List D) (k : Nat) : cutD xs (some (k : Nat)) none = xs.drop k := by
  unfold cutD
  rw [HT.sIx_none, HT.sIx_nat]
  by_cases h : k ≤ xs.length
  · rw [Nat.min_eq_left h]
    exact List.take_of_length_le (by rw [List.length_drop]; omega)
  · rw [Nat.min_eq_right (by omega), List.drop_length, List.take_nil, List.drop_of_length_le (by omega)]
end VL
end

section
set_option Elab.async false
set_option linter.all false
set_option maxRecDepth 100000
set_option maxHeartbeats 4000000
/-! expressions of several results (what is drawn is told loosely), nothing raised -/
namespace VL
open PySem PySem.Spec PyProof.Rows L2
def EVQ (K : PySem.W.Frag) (t : TE) (ρ : Lo) (R : D → Lo → Prop) : Prop :=
  ∀ F O σ H (Q : VK), SOk K F O ρ σ H → (∀ d ρ' v H', R d ρ' → owns ρ' = owns ρ → SOk K F O ρ' σ H' → Rep K (hid (UU O ρ') H') v d → Q v H') → t σ H Q
def ETQ (K : PySem.W.Frag) (t : TT) (ρ : Lo) (R : Bool → Lo → Prop) : Prop :=
  ∀ F O σ H (Q : Bool → Hp → Prop), SOk K F O ρ σ H → (∀ b ρ' H', R b ρ' → owns ρ' = owns ρ → SOk K F O ρ' σ H' → Q b H') → t σ H Q
def QE (X : Cx) (ρ : Lo) (e : Expr) (R : D → Lo → Prop) : Prop := EVQ X.K (tw X e) ρ R
def QT (X : Cx) (ρ : Lo) (e : Expr) (R : Bool → Lo → Prop) : Prop := ETQ X.K (twT X e) ρ R
def QW (X : Cx) (ρ : Lo) (e : Expr) (R : Bool → Lo → Prop) : Prop := ETQ X.K (twW X e) ρ R
section
variable {X : Cx} {e a b c tg : Expr} {es rest' : List Expr} {p pos : Pos} {ρ ρ1 ρ2 : Lo} {i j : Int} {d : D} {ds es' : List D} {W : WE} {rest A B : List Stmt} {n m x : Str} {R R' : D → Lo → Prop} {Rb Rb' : Bool → Lo → Prop} {k : Nat} {S : Spec} {q : Addr}
theorem QE.imp (h : QE X ρ e R) (i : ∀ d ρ', R d ρ' → R' d ρ') : QE X ρ e R' := fun F O σ H Q I qq => h F O σ H Q I fun d ρ' v H' r o J rv => qq d ρ' v H' (i _ _ r) o J rv
theorem CE.qe (h : CE X ρ e d ρ1) (r : R d ρ1) : QE X ρ e R := fun F O σ H Q I qq => h.2 F O σ H Q I fun v H' J rv => qq d ρ1 v H' r h.1 J rv
theorem CT.qt {k : Bool} (h : CT X ρ e k ρ1) (r : Rb k ρ1) : QT X ρ e Rb := fun F O σ H Q I qq => h.2 F O σ H Q I fun H' J => qq k ρ1 H' r h.1 J
theorem QT.of {t : TT} (hp : PT X e t) (h : ETQ X.K t ρ Rb) : QT X ρ e Rb := fun F O σ H Q I qq pins s J => hp.run pins s σ H Q J (h F O σ H Q I qq)
theorem QW.of {t : TT} (hp : PW X e t) (h : ETQ X.K t ρ Rb) : QW X ρ e Rb := fun F O σ H Q I qq wh pins s J => hp.run wh pins s σ H Q J (h F O σ H Q I qq)
/-- a value that is a truth, as a test -/
theorem qt_val (h : QE X ρ e fun d ρ' => ∃ b, d = .bl b ∧ Rb b ρ') (he : ∀ whole, isTrue e X.env whole = (do let v ← whole; standAt e.pos; holding [v] (truthy v)) := by intro _; rfl) : QT X ρ e Rb :=
  .of (pt_val pe_tw he) fun F O σ H Q I q => h F O σ H _ I fun d ρ' v H' ⟨b, e, r⟩ o J rv => by
    subst e
    cases rv
    exact ⟨b, rfl, q b ρ' H' r o J⟩
theorem qt_not (h : QT X ρ a fun b ρ' => Rb (!b) ρ') : QT X ρ (.UnaryOp .Not a pos) Rb := .of (pt_not pt_tw) fun F O σ H Q I q => h F O σ H _ I fun b ρ' H' r o J => q _ ρ' H' r o J
theorem qt_w (h : QW X ρ e Rb) : QT X ρ e Rb := .of (PW.pt pw_tw) h
theorem qw_or1 (h : QT X ρ a Rb) : QW X ρ (.BoolOp .Or [a] pos) Rb := .of (pw_or1 pt_tw) h
theorem qw_or (ha : QT X ρ a fun k ρ1 => (k = true → Rb true ρ1) ∧ (k = false → QW X ρ1 (.BoolOp .Or (b :: rest') pos) Rb)) : QW X ρ (.BoolOp .Or (a :: b :: rest') pos) Rb :=
  .of (pw_or pt_tw pw_tw) fun F O σ H Q I q => ha F O σ H _ I fun k ρ1 H1 ⟨r1, r2⟩ o J => by
    cases k with
    | true => rw [if_pos rfl]; exact q true ρ1 H1 (r1 rfl) o J
    | false => rw [if_neg Bool.false_ne_true]; exact r2 rfl F O σ H1 Q J fun b ρ2 H2 r o2 J2 => q b ρ2 H2 r (o2.trans o) J2
theorem qw_and1 (h : QT X ρ a Rb) : QW X ρ (.BoolOp .And [a] pos) Rb := .of (pw_and1 pt_tw) h
theorem qw_and (ha : QT X ρ a fun k ρ1 => (k = false → Rb false ρ1) ∧ (k = true → QW X ρ1 (.BoolOp .And (b :: rest') pos) Rb)) : QW X ρ (.BoolOp .And (a :: b :: rest') pos) Rb :=
  .of (pw_and pt_tw pw_tw) fun F O σ H Q I q => ha F O σ H _ I fun k ρ1 H1 ⟨r1, r2⟩ o J => by
    cases k with
    | false => rw [if_neg Bool.false_ne_true]; exact q false ρ1 H1 (r1 rfl) o J
    | true => rw [if_pos rfl]; exact r2 rfl F O σ H1 Q J fun b ρ2 H2 r o2 J2 => q b ρ2 H2 r (o2.trans o) J2
/-- if, the test of several outcomes -/
theorem css_ifQ (hc : QT X ρ c fun k ρ1 => (k = true → CSs X ρ1 A { W with nx := fun ρ' => CSs X ρ' rest W }) ∧ (k = false → CSs X ρ1 B { W with nx := fun ρ' => CSs X ρ' rest W })) : CSs X ρ (.If c A B pos :: rest) W :=
  css_of (ps_if pt_tw pss_tw pss_tw) fun F O σ H E I r => hc F O σ H _ I fun k ρ1 H1 ⟨h1, h2⟩ o J => by
    cases k with
    | true => rw [if_pos rfl]; exact h1 rfl F O σ H1 E J r
    | false => rw [if_neg Bool.false_ne_true]; exact h2 rfl F O σ H1 E J r
theorem css_asgD (i : Nat) (B : Bdn X) (he : QE X ρ e fun d ρ1 => CSs X (ρ1.set i (.dat d)) rest W) (hi : X.N[i]? = some n := by rfl) (hx : Loc X.env.scope n := by first | exact Or.inl rfl | exact Or.inr rfl)
    (hs : swapsWith e (some (.Name n p)) pos.line X.env = pure false := by rfl) (hf : X.fn n = true ∨ X.env.scope.names.lookup n = some .local := by first | exact .inl rfl | exact .inr rfl) : CSs X ρ (.Assign [.Name n p] e pos :: rest) W :=
  css_of (ps_set B.nd hi hx pe_tw hs hf) fun F O σ H E I r => he F O σ H _ I fun d ρ1 v H1 k o J rv => r.nx _ _ _ k (J.set rv)
theorem css_tupD {T : Tg} (he : QE X ρ e fun d ρ1 => ∃ ρ2, Bind T d ρ1 ρ2 ∧ CSs X ρ2 rest W) (hg : PG X tg (gOf X.K T)) (hs : swapsWithSole [tg] e pos.line X.env = pure false := by rfl) (hw : swappedStores [tg] e X.env = pure none := by rfl)
    (h1 : (assignEach [tg] X.env).map (·.2) = [assign tg X.env] := by rfl) : CSs X ρ (.Assign [tg] e pos :: rest) W := css_of (ps_asg pe_tw hg hs hw h1) fun F O σ H E I r => he F O σ H _ I fun d ρ1 v H1 ⟨ρ2, hb, k⟩ o J rv => hb.run J rv fun σ' L _ _ => r.nx _ _ _ k L
theorem css_retD (he : QE X ρ e fun d ρ1 => W.rt d ρ1) : CSs X ρ (.Return (some e) pos :: rest) W := css_of (ps_ret pe_tw) fun F O σ H E I r => he F O σ H _ I fun d ρ1 v H1 k o J rv => r.rt d ρ1 σ H1 v k J rv
/-- f(hand, e, ..), its result told loosely -/
theorem q_hand (i : Nat) {xp : Pos} {g : Str} (Fn : FnV X.prog X.w X.K X.mg X.base k g S) (hr : Room k X.A) (hi : ρ[i]? = some (.mut q ds)) (ha : CD X ρ es es' ρ1) {cs1 : List D} (hi1 : ρ1[i]? = some (.mut q cs1))
    (hS : S (.mut q cs1 :: es'.map .dat) fun r ρa => ∃ cs d, ρa = .mut q cs :: es'.map .dat ∧ r = .ok d ∧ R d (ρ1.set i (.mut q cs))) (hg : Gl X g := by rfl) (hN : X.N[i]? = some n := by rfl) (hv : Vis X.env.scope n := by first | exact Or.inl rfl | exact Or.inr (Or.inl rfl) | exact Or.inr (Or.inr rfl))
    (h1 : (n == ("__debug__" : Str)) = false := by decide) (h2 : (n == ("__classdict__" : Str)) = false := by decide) (hdb : (g == ("__debug__" : Str)) = false := by decide)
    (he : starEach (.Name n xp :: es) X.env = (false, eval (.Name n xp) X.env) :: starEach es X.env := by rfl) (hpl : (backTo pos (starEach es X.env)).any (·.1) = false := by rfl) :
    QE X ρ (.Call (.Name g p) (.Name n xp :: es) [] pos) R := fun F O σ H Q I qq => by
  obtain ⟨f, fd, ps, hF, hm, hk, hb⟩ := Fn.ex
  intro pins s Iv
  refine (pe_call hF hr hg hm hk hb .nil passLN (pa_cons (pe_var hN hv h1 h2) pa_tw he) hdb he hpl).run pins s σ H Q Iv ?_
  obtain ⟨e1, _, _⟩ := I.mt i q ds hi
  refine ⟨.ref q, e1, ha.2 F O σ H _ I fun ws H1 J rs => ?_⟩
  refine ⟨fun a => UU O ρ1 a ∧ a ≠ q, .mut q cs1 :: es'.map .dat, ?_, Fn.mono _ _ _ (fun r ρa ⟨cs, d, ea, er, hR⟩ => ?_) hS⟩
  · rw [List.append_nil]
    exact argsM_ok (cs := []) J hi1 rs
  · subst ea er
    intro _ H' L v rv
    rw [List.append_nil] at L
    obtain ⟨M1, M2⟩ := backM J hi1 L
    exact qq d _ v H' hR ((owns_setM hi1).trans ha.1) M1 (M2 rv)
/-- a, b, c = x, y, [..] -/
theorem css_par3M (i j l : Nat) {m2 : Str} {px py pz pt pt2 : Pos} {kt k2} {y : D} {x : D} {ρ3 : Lo} (B : Bd X) (ha : CE X ρ a x ρ1) (hb : CE X ρ1 b y ρ2) (hc : CN X ρ2 c ds ρ3) (k : ∀ q, CSs X (((ρ3.set i (.dat x)).set j (.dat y)).set l (.mut q ds)) rest W) (hlt : l < ρ3.length := by first | decide | simp) (hij : i ≠ j := by decide) (hil : i ≠ l := by decide) (hjl : j ≠ l := by decide)
    (hi : X.N[i]? = some n := by rfl) (hj : X.N[j]? = some m := by rfl) (hl : X.N[l]? = some m2 := by rfl)
    (hx : X.env.scope.names.lookup n = some .local := by rfl) (hy : X.env.scope.names.lookup m = some .local := by rfl) (hz : X.env.scope.names.lookup m2 = some .local := by rfl)
    (hw : swappedStores [.Tuple [.Name n px, .Name m py, .Name m2 pz] kt pt] (.Tuple [a, b, c] k2 pt2) X.env = pure (some [n, m, m2]) := by rfl)
    (hs : swapsWithSole [.Tuple [.Name n px, .Name m py, .Name m2 pz] kt pt] (.Tuple [a, b, c] k2 pt2) pos.line X.env = pure false := by rfl)
    (he : starEach [a, b, c] X.env = (false, eval a X.env) :: starEach [b, c] X.env := by rfl) (he2 : starEach [b, c] X.env = (false, eval b X.env) :: starEach [c] X.env := by rfl) (he3 : starEach [c] X.env = (false, eval c X.env) :: starEach [] X.env := by rfl) :
    CSs X ρ (.Assign [.Tuple [.Name n px, .Name m py, .Name m2 pz] kt pt] (.Tuple [a, b, c] k2 pt2) pos :: rest) W :=
  css_of (ps_par3 B.calm B.nd hi hj hl hij hil hjl hx hy hz (pa_cons pe_tw (pa_cons pe_tw (pa_cons pe_tw pa_nil he3) he2) he) hw hs) fun F O σ H E I r => ha.2 F O σ H _ I fun v H0 I0 r0 => hb.2 _ O σ H0 _ I0.sup fun w H1 J rw' => hc.2 _ O σ H1 _ J.sup fun q vs H2 M hp rv => by
    have J' := J.weak I0.le_sup I0.od
    have M' := M.weak J'.le_sup J'.od
    have r1 := SOk.keep hc.1 M (SOk.keep hb.1 J r0)
    have r2 := SOk.keep hc.1 M rw'
    have exS : ∀ {ρ : Lo} {i : Nat} {d : D} {H : Hp}, Ex (hid (UU O ρ) H) (hid (UU O (ρ.set i (.dat d))) H) := fun {ρ i d H} => ex_hid fun a o _ nn h => ⟨fun z => nn (UU_set datNe z), h⟩
    refine ⟨v, w, .ref q, rfl, r.nx _ _ _ (k q) ?_⟩
    exact ((M'.set (i := i) r1).set (i := j) (r2.mono exS)).own1 (i := l) hp (Reps.mono exS (Reps.mono exS rv)) (by rw [List.length_set, List.length_set]; exact hlt)
end
end VL
end

section
set_option Elab.async false
set_option linter.all false
set_option maxRecDepth 100000
set_option maxHeartbeats 4000000
/-! the end -/
namespace VL
open PySem PySem.Spec PyProof.Rows L2 LamX
/-- the law's def itself -/
theorem fn_law {P : Program} {w : World} {K : PySem.W.Frag} {mg : Str → Option Value} {base : Heap} {k : Nat} {x : Str} {st : Stmt} {f : Addr} {fd : FuncData} {N ps : List Str} {A : List D → Res → Prop} (Fu : Fun K x x st f fd) (Sc : FnScope N ps (defScope st)) (hlen : ∀ ds r, A ds r → ds.length = ps.length)
    (hbody : ∀ (cdv : Value) (A' : Around) (outer : List Env) (s : Shared) (H : Hp) (E : XK), Room k (cx P w K mg base N x st f cdv A' outer s H E).A → Bd (cx P w K mg base N x st f cdv A' outer s H E) → ∀ ds r, A ds r →
      CSs (cx P w K mg base N x st f cdv A' outer s H E) (ds.map .dat ++ List.replicate (N.length - ps.length) .un) (defBody st) { nx := fun _ => r = .ok .non, rt := fun d _ => r = .ok d, er := fun e _ => r = .error e }) (hb : Binds K fd ps []) (hm : mg x = some (.ref f)) : FnOk P w K mg base (L2N.CX P w) (k + 1) f fd ps (spV K (detS A)) := by
  refine Fun.okXN Fu Sc (fun vs H Q E h => ?_) (fun cdv A' outer s H vs Q E hr h => ⟨_, pss_tw, ?_⟩)
  · obtain ⟨O, ρ, I, ds, r, rfl, a, _⟩ := h
    have := I.len
    rw [List.length_map, List.length_map] at this
    rw [this]
    exact hlen ds r a
  · obtain ⟨O, ρ, I, ds, r, rfl, a, po⟩ := h
    have hl : vs.length = ps.length := by
      have := I.len
      rw [List.length_map, List.length_map] at this
      rw [this]
      exact hlen ds r a
    intro pins s1 Iv
    rw [start_eq hl] at Iv
    have post := po rfl
    have exH : ExN H (VL.sup (ds.map .dat) H) := fun a o _ h => hid_of owns_dats h
    have sub : ∀ {ρ' : Lo} {H' : Hp} a, UU O (ds.map .dat) a → UU O ρ' a := fun a z => z.elim .inl fun z => absurd z owns_dats
    refine hbody cdv A' outer s H E hr (bd_cx Sc.nd) ds r a (VL.sup (ds.map .dat) H) O _ H _ (I.more _) ⟨fun ρ' σ' H' h J => ?_, fun d ρ' σ' H' v h J rv => ?_, fun _ _ _ h _ => h.elim, fun _ _ _ h _ => h.elim, _, takes_cx, fun er ρ' σ' H' cls dd h J re => ?_⟩ pins s1 Iv
    · subst h
      exact post H' (I.ext (exH.trans J.fr.nt) J.tb) .non .non
    · subst h
      exact post H' (I.ext (exH.trans J.fr.nt) J.tb) v (rv.mono (ex_hid fun a o _ n h => ⟨fun z => n (sub (H' := H') a z), h⟩))
    · subst h
      obtain ⟨e1, e2⟩ := re
      refine post H' (I.ext (exH.trans J.fr.nt) J.tb) cls dd ⟨e1, ?_⟩
      rcases e2 with e2 | ⟨aa, fv, h7, h8, h9⟩
      · exact .inl e2
      · have ex := ex_hid (U := UU O ρ') (U' := UU O (ds.map .dat)) (H := H') (H' := H') fun a o _ n h => ⟨fun z => n (sub (H' := H') a z), h⟩
        exact .inr ⟨aa, fv, h7, ex _ _ h8, RepF.mono ex h9⟩
/-- what the script's law wants -/
def A_script (ds : List D) (r : Res) : Prop := ∃ ns : List Int, ds = [.frl (ns.map D.int)] ∧ ns.length ≤ 63 ∧ r = .ok (.bl true)
theorem sp_script {K : PySem.W.Frag} {H : Hp} {a : Addr} {ns : List Int} (tb : TB H) (hl : ns.length ≤ 63) (hS : SqL K H a (ns.map V.int)) : spV K (detS A_script) [.ref a] H (fun v _ => v = .bl true) fun _ _ _ => False := by
  have hS' : SqL K (hid (fun _ => False) H) a (ns.map V.int) := by
    rcases hS with (h | ⟨o, h⟩) | h
    · exact .inl (.inl (hid_of id h))
    · exact .inl (.inr ⟨o, hid_of id h⟩)
    · exact .inr h
  refine ⟨fun _ => False, [Sl.dat (.frl (ns.map D.int))], args_ok (ds := [.frl (ns.map D.int)]) (.one (.frl hS' (Reps.ofInts ns))) (fun _ z => z.elim) tb, [.frl (ns.map D.int)], .ok (.bl true), rfl, ⟨ns, rfl, hl, rfl⟩, fun _ H' J v rv => ?_⟩
  cases rv
  rfl
/-! ### the law's call: what is tracked at its start -/
section
variable {K : PySem.W.Frag} {cs : List (Addr × Addr)} {a : Addr} {vs : List Value} {ns : List Int} {h : Heap} {b : Addr} {o : Obj} {u : HO}
abbrev scrO (vs : List Value) : Obj := { cls := .type "list", data := .seq vs.toArray }
/-- the tables are empty; the script is read alone, where no written fact holds it -/
def hp0 (K : PySem.W.Frag) (cs : List (Addr × Addr)) (a : Addr) (vs : List Value) (ns : List Int) : Hp := fun b =>
  if b ∈ cs.map (·.2) then some (.tbl #[]) else if b = a ∧ (K.lookup a).isNone = true then some (.frz (scrO vs) (.lst (ns.map V.int))) else none
theorem hp0_tab (hb : b ∈ cs.map (·.2)) : hp0 K cs a vs ns b = some (.tbl #[]) := by unfold hp0; rw [if_pos hb]
theorem hp0_inv (z : hp0 K cs a vs ns b = some u) : (b ∈ cs.map (·.2) ∧ u = .tbl #[]) ∨ (b ∉ cs.map (·.2) ∧ b = a ∧ K.lookup a = none ∧ u = .frz (scrO vs) (.lst (ns.map V.int))) := by
  unfold hp0 at z
  split at z
  · rename_i q; exact .inl ⟨q, (Option.some.inj z).symm⟩
  · rename_i q
    split at z
    · rename_i q2; exact .inr ⟨q, q2.1, Option.isNone_iff_eq_none.mp q2.2, (Option.some.inj z).symm⟩
    · cases z
/-- what stands where something is tracked: a list, or an empty table -/
theorem hp0_free (hT : ∀ b ∈ cs.map (·.2), h.get? b = some { cls := .none, data := .fields #[] }) (ha : h.get? a = some (scrO vs)) (e : h.get? b = some o) (n1 : ∀ x k, o.data ≠ .seq x k) (n2 : o.data ≠ .fields #[]) : hp0 K cs a vs ns b = none := by
  cases q : hp0 K cs a vs ns b with
  | none => rfl
  | some u =>
    rcases hp0_inv q with ⟨hb, _⟩ | ⟨_, rfl, _, _⟩
    · rw [hT b hb] at e; cases e; exact absurd rfl n2
    · rw [ha] at e; cases e; exact absurd rfl (n1 _ _)
theorem hp0_ns {m : Str → Option Value} (hT : ∀ b ∈ cs.map (·.2), h.get? b = some { cls := .none, data := .fields #[] }) (ha : h.get? a = some (scrO vs)) (g : h.Ns b m) : (hidT h (hp0 K cs a vs ns)).Ns b m := by
  obtain ⟨o, es, ep, e, d, r⟩ := g
  exact ⟨o, es, ep, hidT_get e (hp0_free hT ha e (fun _ _ z => by rw [d] at z; cases z) fun z => by rw [d] at z; cases z), d, r⟩
theorem hp0_kin (KX : K.In h) (nT : ∀ b ∈ cs.map (·.2), K.lookup b = none) : K.In (hidT h (hp0 K cs a vs ns)) := fun b o e => hidT_get (KX b o e) (by
  cases q : hp0 K cs a vs ns b with
  | none => rfl
  | some u =>
    rcases hp0_inv q with ⟨hb, _⟩ | ⟨_, rfl, n, _⟩
    · rw [nT b hb] at e; cases e
    · rw [n] at e; cases e)
theorem hp0_ok {P : Program} {w : World} (hT : ∀ b ∈ cs.map (·.2), h.get? b = some { cls := .none, data := .fields #[] }) (ha : h.get? a = some (scrO vs)) (hi : IntsAre vs ns) (hl : ns.length ≤ sizeLine) : HOk P w (hp0 K cs a vs ns) h := fun b u z => by
  rcases hp0_inv z with ⟨hb, rfl⟩ | ⟨_, rfl, _, rfl⟩
  · exact hT b hb
  · exact ⟨ha, by rw [List.length_map]; exact hl, vs, _, vals_ints hi, ha⟩
theorem hp0_script (aT : a ∉ cs.map (·.2)) (KX : K.In h) (ha : h.get? a = some (scrO vs)) (hi : IntsAre vs ns) (hl : ns.length ≤ sizeLine) : SqL K (hp0 K cs a vs ns) a (ns.map V.int) := by
  cases q : K.lookup a with
  | some o =>
    have e := KX a o q
    rw [ha] at e
    cases e
    exact .inr ⟨_, vs.toArray, _, q, rfl, rfl, rfl, by rw [List.size_toArray, hi.length]; exact hl, by simpa using vals_ints hi⟩
  | none => exact .inl (.inr ⟨scrO vs, by unfold hp0; rw [if_neg aT, if_pos ⟨rfl, by rw [q]; rfl⟩]⟩)
theorem hp0_tabB {mg : Str → Option Value} {p : Addr × Addr} (hT : ∀ b ∈ cs.map (·.2), h.get? b = some { cls := .none, data := .fields #[] }) (ha : h.get? a = some (scrO vs)) (hp : p ∈ cs) (C : PySem.W.CodeHd h p.1 p.2) (hns : h.Ns mainGlobals mg)
    (hbm : ∃ (bm : Addr) (ob : Obj), mg "__builtins__" = some (.ref bm) ∧ bm ≠ builtinsNs ∧ h.get? bm = some ob ∧ ob.cls = .type "module" ∧ ob.dict = some builtinsNs ∧ ob.data = .plain) : TabB (hidT h (hp0 K cs a vs ns)) mg p.1 p.2 := by
  have tp := hT p.2 (List.mem_map.mpr ⟨p, hp, rfl⟩)
  have ng : mainGlobals ≠ p.2 := fun z => by
    obtain ⟨_, _, _, e, d, _⟩ := hns
    rw [z, tp] at e
    cases e
    cases d
  obtain ⟨bm, ob, b1, b2, b3, b4, b5, b6⟩ := hbm
  have fb : hp0 K cs a vs ns bm = none := hp0_free hT ha b3 (fun _ _ z => by rw [b6] at z; cases z) fun z => by rw [b6] at z; cases z
  refine ⟨?_, ⟨bm, ob, b1, b2, fun z => ?_, fun z => ?_, hidT_get b3 fb, b4, b5, b6⟩, ng⟩
  · obtain ⟨o, us, x3, x4, x5, x6, x7, x8, x9, e, y1, y2, y3, rest⟩ := C
    exact ⟨o, us, x3, x4, x5, x6, x7, x8, x9, hidT_get e (hp0_free hT ha e (fun _ _ z => by rw [y2] at z; cases z) fun z => by rw [y2] at z; cases z; simp at y3), y1, y2, y3, rest⟩
  · obtain ⟨_, _, _, e, d, _⟩ := hns
    rw [← z, b3] at e
    cases e
    rw [b6] at d
    cases d
  · rw [z, tp] at b3
    cases b3
    cases b6
/-- the call of a law over a script: the guards are known -/
theorem law_vl {P : Program} {w : World} {mg mb : Str → Option Value} {k : Nat} {fa : Addr} {fd : FuncData} {x : Str} {sp : Sp} {s₁ : Shared}
    (KX : K.In s₁.heap) (hns : s₁.heap.Ns mainGlobals mg) (hb : s₁.heap.Ns builtinsNs mb) (hbb : ∀ x : Str, x ≠ "__name__" → mb x = bootBuiltins x) (hlim : s₁.heap.NoLimit) (hg : s₁.gens = #[])
    (hT : ∀ b ∈ cs.map (·.2), s₁.heap.get? b = some { cls := .none, data := .fields #[] }) (nT : ∀ b ∈ cs.map (·.2), K.lookup b = none) (C : ∀ p ∈ cs, PySem.W.CodeHd s₁.heap p.1 p.2)
    (hbm : ∃ (bm : Addr) (ob : Obj), mg "__builtins__" = some (.ref bm) ∧ bm ≠ builtinsNs ∧ s₁.heap.get? bm = some ob ∧ ob.cls = .type "module" ∧ ob.dict = some builtinsNs ∧ ob.data = .plain)
    (ha : s₁.heap.get? a = some (scrO vs)) (hi : IntsAre vs ns) (hl : ns.length ≤ sizeLine) (hr : Room k callerA)
    (F : ∀ base : Heap, K.In base → base.Ns mainGlobals mg → (∀ p ∈ cs, TabB base mg p.1 p.2) → FnOk P w K mg base (L2N.CX P w) k fa fd [x] sp) (hbind : ∀ (s : Shared) (u : Value), BindsTo s fd ⟨[u], []⟩ [(x, u)])
    (hsp : ∀ H : Hp, (∀ p ∈ cs, H p.2 = some (.tbl #[])) → SqL K H a (ns.map V.int) → sp [.ref a] H (fun v _ => v = .bl true) fun _ _ _ => False) :
    codeAny (model P w) callerA (.call (.ref fa) ⟨[.ref a], []⟩) (fun r s' => r = .ok (.ret (.bool true)) ∧ OldK s₁.heap s'.heap ∧ s'.os = s₁.os ∧ AllBare s'.gens) s₁ := by
  have aT : a ∉ cs.map (·.2) := fun z => by
    have q := hT a z
    rw [ha] at q
    cases congrArg (fun o : Option Obj => o.map (·.data)) q
  have ok0 : HOk P w (hp0 K cs a vs ns) s₁.heap := hp0_ok hT ha hi hl
  have M0 : L2.Mod K mg (hidT s₁.heap (hp0 K cs a vs ns)) := ⟨hp0_kin KX nT, hp0_ns hT ha hns, ⟨mb, hp0_ns hT ha hb, hbb⟩, hlim.imp fun _ z => ⟨hp0_ns hT ha z.1, z.2⟩⟩
  have run := (F _ M0.kin M0.glob fun p hp => hp0_tabB hT ha hp (C p hp) hns hbm).run callerA [] s₁ _ ⟨[.ref a], []⟩ [.ref a] [.ref a] _ _ hr
    ⟨rfl, M0, fun _ _ e => of_hidT e, Nat.le_of_eq (hidT_size _ _), trivial, fun _ z => (List.not_mem_nil z).elim, ok0, .of_eq hg⟩ (hbind s₁ (.ref a)) (.cons rfl .nil)
    (hsp _ (fun p hp => hp0_tab (List.mem_map.mpr ⟨p, hp, rfl⟩)) (hp0_script aT KX ha hi hl))
  refine codeAny_mono run fun r s' z => ?_
  rcases r with e | fl
  · obtain ⟨_, _, _, _, _, _, _, _, _, _, _, _, z⟩ := z
    exact z.elim
  · rcases fl with _ | _ | _ | u
    all_goals first | exact False.elim z | skip
    obtain ⟨v, H', os, bare, un, ok', rv, rfl⟩ := z
    obtain rfl : u = Value.bool true := rv
    have stay : ∀ b o, b ∉ cs.map (·.2) → s₁.heap.get? b = some o → s'.heap.get? b = some o := fun b o nb e => by
      cases q : hp0 K cs a vs ns b with
      | none => exact un.keep b o e q List.not_mem_nil List.not_mem_nil
      | some u =>
        rcases hp0_inv q with ⟨y, _⟩ | ⟨_, rfl, _, rfl⟩
        · exact (nb y).elim
        · have e2 := (ok' b _ (un.frzs b _ _ q)).1
          rw [ha] at e
          cases e
          exact e2
    have tabs : ∀ b ∈ cs.map (·.2), ∃ more : Array Value, s'.heap.get? b = some { cls := .none, data := .fields more } := fun b y => by
      obtain ⟨more, q⟩ := un.tbls b #[] (hp0_tab y)
      exact ⟨_, ok' b _ q⟩
    refine ⟨rfl, ⟨fun b o e => ?_, fun b o e => ?_⟩, os, bare⟩
    · by_cases y : b ∈ cs.map (·.2)
      · obtain ⟨more, q⟩ := tabs b y
        obtain ⟨p, hp, rfl⟩ := List.mem_map.mp y
        have tp := hT p.2 y
        have e' := tp.symm.trans e
        cases e'
        exact .inr (.inl ⟨((C p hp).tab tp).isCodeTable, rfl, #[], more, rfl, by rw [Array.empty_append]; exact q⟩)
      · exact .inl (stay b o y e)
    · by_cases y : b ∈ cs.map (·.2)
      · obtain ⟨more, q⟩ := tabs b y
        exact ⟨_, q⟩
      · exact ⟨o, stay b o y e⟩
end
/-- the walk of a law row: cs, the code objects whose tables grow -/
theorem walk_vl {l : PySem.W.OpenLaw} {k : Nat} {q : Program} {loose : List Str} {XP : (Str → Option Value) → Heap → Prop} {YP : World → Heap → Prop} {d : DefRec} {K : Params → PySem.W.Frag} {x : Str}
    (hn : l.most = some 63) (hdf : d.params.defaults = []) (hr : Room k callerA) (hY : ∀ (w : World) (h : Heap), YP w h → (K w.params).In h)
    (F : ∀ (w : World) (mg : Str → Option Value) (fa : Addr) (h : Heap), YP w h → XP mg h → (K w.params).In h → h.Ns mainGlobals mg → mg d.name = some (.ref fa) →
      (∀ (y : Str) (e : DefRec) (c P : Addr), (recsOf q).find? (fun e => e.name == y) = some e → PySem.W.tabIn (K w.params) y = some (c, P) → PySem.W.CodeHd h c P ∧ h.get? P = some (PySem.W.tabObj #[])) → ∃ (fd : FuncData) (cs : List (Addr × Addr)), (∀ p ∈ cs, h.get? p.2 = some { cls := .none, data := .fields #[] }) ∧ (∀ p ∈ cs, (K w.params).lookup p.2 = none) ∧ (∀ p ∈ cs, PySem.W.CodeHd h p.1 p.2) ∧
        (∀ p ∈ lamT, p.1 ∈ cs.map (·.2)) ∧ (∀ (s : Shared) (u : Value), BindsTo s fd ⟨[u], []⟩ [(x, u)]) ∧ ∀ base : Heap, (K w.params).In base → base.Ns mainGlobals mg → (∀ p ∈ cs, TabB base mg p.1 p.2) → FnOk l.prog w (K w.params) mg base (L2N.CX l.prog w) k fa fd [x] (spV (K w.params) (detS A_script))) :
    PySem.W.WalkO q loose XP YP l.row.toRowW d [] (fun f vs => PySem.call f vs) := by
  refine Att.attach_callB hn hdf fun w s₀ s₁ mg mb fa o pm cd doc a vs ns G Y ho hd hcd hmg hobj hints hlen hbits hg => ?_
  have KX := hY w _ Y
  obtain ⟨fd, cs, hT, nT, C, hL, hb, hF⟩ := F w mg fa _ Y G.X KX G.T.g hmg fun y e c P h1 h2 => PySem.W.tab_of G.T KX h1 h2
  refine law_vl KX G.T.g G.T.b G.T.builtins G.T.nolimit hg (fun b y => ?_) (fun b y => ?_) C G.T.bmain hobj hints (Nat.le_trans hlen (by decide)) hr hF hb (fun H hH hS => sp_script (fun p hp => ?_) hlen hS)
  · obtain ⟨p, hp, rfl⟩ := List.mem_map.mp y
    exact hT p hp
  · obtain ⟨p, hp, rfl⟩ := List.mem_map.mp y
    exact nT p hp
  · obtain ⟨r, hr1, hr2⟩ := List.mem_map.mp (hL p hp)
    exact TabS.nil (by rw [← hr2]; exact hH r hr1)
end VL
end

section
set_option Elab.async false
set_option linter.all false
set_option maxRecDepth 100000
set_option maxHeartbeats 4000000
namespace VL
open PySem PySem.Spec PyProof.Rows L2
/-! ### zip of three tuples -/
def Itz3T (K : PySem.W.Frag) (a b c : Addr) : It :=
  ⟨fun i H => ∃ (xs ys zs : List V) (x y z : V), SqT K H a xs ∧ SqT K H b ys ∧ SqT K H c zs ∧ xs[i]? = some x ∧ ys[i]? = some y ∧ zs[i]? = some z,
    fun i H v H' => ∃ T x y z, v = .ref T ∧ H T = none ∧ H' = upd H T (.tup [x, y, z]) ∧ (∀ xs, SqT K H a xs → xs[i]? = some x) ∧ (∀ ys, SqT K H b ys → ys[i]? = some y) ∧ ∀ zs, SqT K H c zs → zs[i]? = some z,
    fun i H => ∃ xs ys zs : List V, SqT K H a xs ∧ SqT K H b ys ∧ SqT K H c zs ∧ i = min (min xs.length ys.length) zs.length⟩
theorem turn_zip3T {P : Program} {w : World} {K : PySem.W.Frag} {elts : List Expr} {kk : Nat} {tpos : Pos} {a b c z TI TO i1 i2 i3 : Addr} (S : ZipSep3 z TI TO i1 i2 i3 [i1, a] [i2, b] [i3, c]) (n1 : a ≠ i1) (n2 : b ≠ i2) (n3 : c ≠ i3) :
    Turn P w K (.Tuple elts kk tpos) (Itz3T K a b c) [z, TI, TO, i1, i2, i3] z (fun i h => IsZip h z TI TO .none ∧ IsTupOf3 h TI (.ref i1) (.ref i2) (.ref i3) ∧ (∃ x y u, IsTupOf3 h TO x y u) ∧ h.IsTupleIter i1 a i ∧ h.IsTupleIter i2 b i ∧ h.IsTupleIter i3 c i) where
  mem := by simp
  obj := fun i h st e he => by
    obtain ⟨hz, hTI, ⟨x, y, u, hTO⟩, ⟨o1, e1, _, d1⟩, ⟨o2, e2, _, d2⟩, ⟨o3, e3, _, d3⟩⟩ := st
    have e' : e = z ∨ e = TI ∨ e = TO ∨ e = i1 ∨ e = i2 ∨ e = i3 := by simpa using he
    rcases e' with q | q | q | q | q | q
    · rw [q]; exact ⟨_, hz, fun v q => nomatch q⟩
    · rw [q]; exact ⟨_, hTI, fun v q => nomatch q⟩
    · rw [q]; exact ⟨_, hTO, fun v q => nomatch q⟩
    · rw [q]; exact ⟨o1, e1, fun v q => by rw [d1] at q; cases q⟩
    · rw [q]; exact ⟨o2, e2, fun v q => by rw [d2] at q; cases q⟩
    · rw [q]; exact ⟨o3, e3, fun v q => by rw [d3] at q; cases q⟩
  keep := fun i h h' st k => by
    obtain ⟨hz, hTI, ⟨x, y, u, hTO⟩, h1, h2, h3⟩ := st
    exact ⟨k z (by simp) _ hz, k TI (by simp) _ hTI, ⟨x, y, u, k TO (by simp) _ hTO⟩, h1.at fun o q => k i1 (by simp) o q, h2.at fun o q => k i2 (by simp) o q, h3.at fun o q => k i3 (by simp) o q⟩
  item := by
    intro X hP hw hK hc i pins s σ H E I hf st hg
    subst hP hw hK
    obtain ⟨hz, hTI, ⟨x0, y0, u0, hTO⟩, h1, h2, h3⟩ := st
    obtain ⟨xs, ys, zs, x, y, u, hqx, hqy, hqz, hx, hy, hu⟩ := hg
    obtain ⟨its, rv, p, _⟩ := I.tuple hqx
    obtain ⟨its2, rv2, p2, _⟩ := I.tuple hqy
    obtain ⟨its3, rv3, p3, _⟩ := I.tuple hqz
    obtain ⟨w1, hw1, ru1⟩ := rv.get hx
    obtain ⟨w2, hw2, ru2⟩ := rv2.get hy
    obtain ⟨w3, hw3, ru3⟩ := rv3.get hu
    have W := WalksT.zipD3 (prog := X.prog) (w := X.w) (A := X.A) S (draws_tuple (A := X.A.in1) (I.ok.hd hc) i1 a n1 its.toArray) (draws_tuple (A := X.A.in1) (I.ok.hd hc) i2 b n2 its2.toArray) (draws_tuple (A := X.A.in1) (I.ok.hd hc) i3 c n3 its3.toArray)
    have l1 := (List.getElem?_eq_some_iff.mp hw1).1
    have l2 := (List.getElem?_eq_some_iff.mp hw2).1
    have l3 := (List.getElem?_eq_some_iff.mp hw3).1
    have hin : i < min (min its.toArray.size its2.toArray.size) its3.toArray.size := by simp only [List.size_toArray]; omega
    have st0 : IsZip s.heap z TI TO .none ∧ IsTupOf3 s.heap TI (.ref i1) (.ref i2) (.ref i3) ∧ (∃ a1 a2 a3, IsTupOf3 s.heap TO a1 a2 a3) ∧ (s.heap.IsTupleIter i1 a i ∧ s.heap.IsTuple a its.toArray) ∧ (s.heap.IsTupleIter i2 b i ∧ s.heap.IsTuple b its2.toArray) ∧ (s.heap.IsTupleIter i3 c i ∧ s.heap.IsTuple c its3.toArray) :=
      ⟨hz, hTI, ⟨_, _, _, hTO⟩, ⟨h1, p⟩, ⟨h2, p2⟩, ⟨h3, p3⟩⟩
    have hzl : z < s.heap.objs.size := Heap.lt_size hz
    refine W.item i s _ _ hin st0 fun T vals h' tk hPt hnew hT hm hk => ⟨.ref T, rfl, W.go elts kk tpos i T { s with heap := h', toks := tk } _ _ hm fun h'' st2 hk2 => ?_⟩
    obtain ⟨v1, v2, v3, e1, e2, e3, rfl⟩ := hPt
    have q1 : v1 = w1 := by rw [List.getElem?_toArray, hw1] at e1; exact (Option.some.inj e1).symm
    have q2 : v2 = w2 := by rw [List.getElem?_toArray, hw2] at e2; exact (Option.some.inj e2).symm
    have q3 : v3 = w3 := by rw [List.getElem?_toArray, hw3] at e3; exact (Option.some.inj e3).symm
    subst q1 q2 q3
    obtain ⟨oT, eT, cT, nT, dT⟩ := hT
    have hT2 : h''.get? T = some oT := hk2 T oT (W.apart i T h' hm) eT
    have new : ObjOk X.prog X.w (upd H T (.tup [x, y, u])) h'' T (.tup [x, y, u]) :=
      ⟨by show 3 ≤ sizeLine; decide, [v1, v2, v3], .cons ru1 (.cons ru2 (.cons ru3 .nil)), ⟨oT, hT2, cT, nT, dT⟩⟩
    have sub : ∀ {e : Addr}, e ∉ [z, TI, TO, i1, i2, i3] → e ∉ [z, TO, i1, i2, i3] := fun {e} h1 h2 => h1 (by
      simp only [List.mem_cons, List.not_mem_nil, or_false] at h2 ⊢
      rcases h2 with r | r | r | r | r <;> simp [r])
    have I1 : Inv X pins σ (upd H T (.tup [x, y, u])) { s with heap := h'', toks := tk } :=
      I.turnedNew (ch := [z, TI, TO, i1, i2, i3]) (fun e o he q => hk2 e o (sub he) (hk e o (sub he) q)) hf hnew new
    refine ⟨.ref T, _, I1, rfl, ⟨_, x, y, u, rfl, I.hok.fresh hnew, rfl, fun l hl => by rw [I.tuple_inj hl hqx]; exact hx, fun l hl => by rw [I.tuple_inj hl hqy]; exact hy, fun l hl => by rw [I.tuple_inj hl hqz]; exact hu⟩, ?_, fun e he => ?_⟩
    · exact ⟨st2.1, st2.2.1, st2.2.2.1, st2.2.2.2.1.1, st2.2.2.2.2.1.1, st2.2.2.2.2.2.1⟩
    · have hlt : e < s.heap.objs.size := by
        have e' : e = z ∨ e = TI ∨ e = TO ∨ e = i1 ∨ e = i2 ∨ e = i3 := by simpa using he
        rcases e' with q | q | q | q | q | q
        · rw [q]; exact hzl
        · rw [q]; exact Heap.lt_size hTI
        · rw [q]; exact Heap.lt_size hTO
        · rw [q]; obtain ⟨_, e1, _⟩ := h1; exact Heap.lt_size e1
        · rw [q]; obtain ⟨_, e2, _⟩ := h2; exact Heap.lt_size e2
        · rw [q]; obtain ⟨_, e3, _⟩ := h3; exact Heap.lt_size e3
      rw [upd_ne (Nat.ne_of_lt (Nat.lt_of_lt_of_le hlt hnew))]
      exact (hf e he).1
  done := by
    intro X hP hw hK hc i pins s σ H E I hf st hg
    subst hP hw hK
    obtain ⟨hz, hTI, ⟨x0, y0, u0, hTO⟩, h1, h2, h3⟩ := st
    obtain ⟨xs, ys, zs, hqx, hqy, hqz, hend⟩ := hg
    obtain ⟨its, rv, p, _⟩ := I.tuple hqx
    obtain ⟨its2, rv2, p2, _⟩ := I.tuple hqy
    obtain ⟨its3, rv3, p3, _⟩ := I.tuple hqz
    have l1 := rv.length
    have l2 := rv2.length
    have l3 := rv3.length
    have W := WalksT.zipD3 (prog := X.prog) (w := X.w) (A := X.A) S (draws_tuple (A := X.A.in1) (I.ok.hd hc) i1 a n1 its.toArray) (draws_tuple (A := X.A.in1) (I.ok.hd hc) i2 b n2 its2.toArray) (draws_tuple (A := X.A.in1) (I.ok.hd hc) i3 c n3 its3.toArray)
    have ei : min (min its.toArray.size its2.toArray.size) its3.toArray.size = i := by simp only [List.size_toArray]; omega
    rw [ei] at W
    have st0 : IsZip s.heap z TI TO .none ∧ IsTupOf3 s.heap TI (.ref i1) (.ref i2) (.ref i3) ∧ (∃ a1 a2 a3, IsTupOf3 s.heap TO a1 a2 a3) ∧ (s.heap.IsTupleIter i1 a i ∧ s.heap.IsTuple a its.toArray) ∧ (s.heap.IsTupleIter i2 b i ∧ s.heap.IsTuple b its2.toArray) ∧ (s.heap.IsTupleIter i3 c i ∧ s.heap.IsTuple c its3.toArray) :=
      ⟨hz, hTI, ⟨_, _, _, hTO⟩, ⟨h1, p⟩, ⟨h2, p2⟩, ⟨h3, p3⟩⟩
    refine W.done s _ _ st0 fun h' tk hk => ⟨rfl, I.turnedL (t' := tk) (ch := [z, TI, TO, i1, i2, i3]) (fun e o he q => hk e o (fun h2 => he ?_) q) hf⟩
    simp only [List.mem_cons, List.not_mem_nil, or_false] at h2 ⊢
    rcases h2 with r | r | r | r | r <;> simp [r]
  self := fun A i s Q E st h => wpAny_pyIter_zip st.1 h
def iZip3T (K : PySem.W.Frag) (ta : TA) : TI := fun σ H R => ta σ H fun vs H1 => ∃ a b c xs ys zs, vs = [.ref a, .ref b, .ref c] ∧ SqT K H1 a xs ∧ SqT K H1 b ys ∧ SqT K H1 c zs ∧ R (Itz3T K a b c) H1
theorem pi_zip3T {X : Cx} {e e2 e3 : Expr} {ta : TA} {p pos tpos : Pos} {elts : List Expr} {kk : Nat} (hg : Gl X "zip") (hm : X.mg "zip" = none) (ha : PA X [e, e2, e3] ta)
    (hs : starEach [e, e2, e3] X.env = (false, eval e X.env) :: starEach [e2, e3] X.env := by rfl) (hpl : (backTo pos (starEach [e2, e3] X.env)).any (·.1) = false := by rfl) :
    PI X (.Tuple elts kk tpos) (.Call (.Name "zip" p) [e, e2, e3] [] pos) (iZip3T X.K ta) := by
  refine ⟨fun pins s σ H R I h => ?_⟩
  refine Call_ (ld_blt I hg hm PyProof.Rows.boot_zip (PyProof.Rows.callWith_type1 (thn (ha.run pos pins s σ H _ I h) fun us s1 ⟨vs, H1, I1, r1, q1⟩ => ?_) hs hpl))
  obtain ⟨a, b, c, xs, ys, zs, ex, hqx, hqy, hqz, q⟩ := q1
  subst ex
  cases r1 with
  | cons r rr =>
    cases rr with
    | cons r' rr =>
      cases rr with
      | cons r'' rr =>
        cases rr
        cases r
        cases r'
        cases r''
        obtain ⟨its, rv, p1, _⟩ := I1.tuple hqx
        obtain ⟨its2, rv2, p2, _⟩ := I1.tuple hqy
        obtain ⟨its3, rv3, p3, _⟩ := I1.tuple hqz
        obtain ⟨o1, ho1, _⟩ := id p1
        obtain ⟨o2, ho2, _⟩ := id p2
        obtain ⟨o3, ho3, _⟩ := id p3
        have b1 := Heap.lt_size ho1
        have b2 := Heap.lt_size ho2
        have b3 := Heap.lt_size ho3
        refine zip_begins3 (begins_tuple a its.toArray) (begins_tuple b its2.toArray) (begins_tuple c its3.toArray) p1 p2 p3 fun h' hz hTI hTO h1 h2 h3 hsz hk => wpAny_pyIter_zip hz ?_
        have I2 : Inv X pins σ H1 { s1 with heap := h' } := I1.kept (t' := s1.toks) hk
        have S := zip_sep3 (N := s1.heap.objs.size) (fp1 := [a]) (fp2 := [b]) (fp3 := [c]) (fun e he => by rw [List.mem_singleton.mp he]; exact b1) (fun e he => by rw [List.mem_singleton.mp he]; exact b2) (fun e he => by rw [List.mem_singleton.mp he]; exact b3)
        refine ⟨s1.heap.objs.size + 5, [s1.heap.objs.size + 5, s1.heap.objs.size + 3, s1.heap.objs.size + 4, s1.heap.objs.size, s1.heap.objs.size + 1, s1.heap.objs.size + 2], _, _, H1, rfl, I2,
          turn_zip3T S (Nat.ne_of_lt b1) (Nat.ne_of_lt (Nat.lt_of_lt_of_le b2 (Nat.le_add_right _ _))) (Nat.ne_of_lt (Nat.lt_of_lt_of_le b3 (Nat.le_add_right _ _))), ⟨hz, hTI, ⟨_, _, _, hTO⟩, ⟨_, h1, rfl, rfl⟩, ⟨_, h2, rfl, rfl⟩, ⟨_, h3, rfl, rfl⟩⟩, fun e he => ?_, q⟩
        have e' : e = s1.heap.objs.size + 5 ∨ e = s1.heap.objs.size + 3 ∨ e = s1.heap.objs.size + 4 ∨ e = s1.heap.objs.size ∨ e = s1.heap.objs.size + 1 ∨ e = s1.heap.objs.size + 2 := by simpa using he
        have hle : s1.heap.objs.size ≤ e := by
          rcases e' with z | z | z | z | z | z
          · rw [z]; exact Nat.le_add_right _ _
          · rw [z]; exact Nat.le_add_right _ _
          · rw [z]; exact Nat.le_add_right _ _
          · rw [z]; exact Nat.le_refl _
          · rw [z]; exact Nat.le_add_right _ _
          · rw [z]; exact Nat.le_add_right _ _
        exact I1.fpOk hle (I1.hok.fresh hle)
def zip3D (xs ys zs : List D) : List D := List.zipWith (fun p z => match p with | .tup [x, y] => .tup [x, y, z] | d => d) (zipD xs ys) zs
theorem zip3D_len {xs ys zs : List D} : (zip3D xs ys zs).length = min (min xs.length ys.length) zs.length := by
  unfold zip3D zipD
  rw [List.length_zipWith, List.length_zipWith]
theorem zip3D_get {xs ys zs : List D} {i : Nat} {x y z : D} (h1 : xs[i]? = some x) (h2 : ys[i]? = some y) (h3 : zs[i]? = some z) : (zip3D xs ys zs)[i]? = some (.tup [x, y, z]) := by
  unfold zip3D
  rw [List.getElem?_zipWith, zipD_get h1 h2, h3]
theorem zip3D_inv {xs ys zs : List D} {i : Nat} {d : D} (h : (zip3D xs ys zs)[i]? = some d) : ∃ x y z, xs[i]? = some x ∧ ys[i]? = some y ∧ zs[i]? = some z ∧ d = .tup [x, y, z] := by
  unfold zip3D at h
  rw [List.getElem?_zipWith] at h
  cases q : (zipD xs ys)[i]? with
  | none => rw [q] at h; cases h
  | some e =>
    cases q3 : zs[i]? with
    | none => rw [q, q3] at h; cases h
    | some z =>
      obtain ⟨x, y, h1, h2, rfl⟩ := zipD_inv q
      rw [q, q3] at h
      cases h
      exact ⟨x, y, z, h1, h2, rfl, rfl⟩
section
variable {X : Cx} {e a b c tg : Expr} {es : List Expr} {ρ ρ1 ρ2 ρ3 ρ' : Lo} {x y d : D} {pos p p2 : Pos} {F F' : Hp} {O : Addr → Prop} {σ : L2.St} {H H' S T : Hp} {i j : Nat} {n m : Str} {ds es' : List D} {q : Addr} {K : PySem.W.Frag}
theorem ci_zip3T {xs ys zs : List D} {elts : List Expr} {kk : Nat} {tpos : Pos} (hm : X.mg "zip" = none) (ha : CE X ρ a (.tup xs) ρ1) (hb : CE X ρ1 b (.tup ys) ρ2) (hc : CE X ρ2 c (.tup zs) ρ3) (hg : Gl X "zip" := by rfl)
    (hs : starEach [a, b, c] X.env = (false, eval a X.env) :: starEach [b, c] X.env := by rfl) (hpl : (backTo pos (starEach [b, c] X.env)).any (·.1) = false := by rfl)
    (he2 : starEach [b, c] X.env = (false, eval b X.env) :: starEach [c] X.env := by rfl) (he3 : starEach [c] X.env = (false, eval c X.env) :: starEach [] X.env := by rfl) : CI X ρ (.Tuple elts kk tpos) (.Call (.Name "zip" p) [a, b, c] [] pos) (zip3D xs ys zs) ρ3 :=
  ⟨_, pi_zip3T hg hm pa_tw hs hpl, hc.1.trans (hb.1.trans ha.1), fun F O σ H R I k => (d_cons ha (d_cons hb (d_cons hc d_nil he3) he2) hs).2 F O σ H _ I fun vs H1 J r => by
    obtain ⟨v, w, u, rfl, ru, rw', ru3⟩ := three_of r
    cases ru with
    | @tup a1 vs1 _ h1 r1 =>
      cases rw' with
      | @tup a2 vs2 _ h2 r2 =>
        cases ru3 with
        | @tup a3 vs3 _ h3 r3 =>
          refine ⟨a1, a2, a3, vs1, vs2, vs3, rfl, hid_ex.t h1, hid_ex.t h2, hid_ex.t h3, k _ H1 J ?_⟩
          have k1 : ∀ {H'}, Ex (VL.sup ρ3 H1) H' → SqT X.K H' a1 vs1 := fun h => h.t ((T_S ρ3 H1).t h1)
          have k2 : ∀ {H'}, Ex (VL.sup ρ3 H1) H' → SqT X.K H' a2 vs2 := fun h => h.t ((T_S ρ3 H1).t h2)
          have k3 : ∀ {H'}, Ex (VL.sup ρ3 H1) H' → SqT X.K H' a3 vs3 := fun h => h.t ((T_S ρ3 H1).t h3)
          have l1 := r1.length
          have l2 := r2.length
          have l3 := r3.length
          refine ⟨fun i H hi h => ?_, fun H h => ⟨vs1, vs2, vs3, k1 h, k2 h, k3 h, by rw [zip3D_len, l1, l2, l3]⟩, fun i H v H' hi h y => ?_⟩
          · rw [zip3D_len] at hi
            exact ⟨vs1, vs2, vs3, vs1[i]'(by omega), vs2[i]'(by omega), vs3[i]'(by omega), k1 h, k2 h, k3 h, by simp, by simp, by simp⟩
          · obtain ⟨t, u1, u2, u3, rfl, ht, rfl, e1, e2, e3⟩ := y
            obtain ⟨d1, q1, q2⟩ := r1.get' (e1 _ (k1 h))
            obtain ⟨d2, q3, q4⟩ := r2.get' (e2 _ (k2 h))
            obtain ⟨d3, q5, q6⟩ := r3.get' (e3 _ (k3 h))
            exact ⟨_, zip3D_get q1 q3 q5, .inr ⟨t, _, _, ht, rfl, rfl, rfl, .cons q2 (.cons q4 (.cons q6 .nil))⟩⟩⟩
/-! ### sum of a tuple -/
def rSumT (K : PySem.W.Frag) : List V → Hp → VK → Prop := fun vs H Q => ∃ (a : Addr) (ns : List Int), vs = [V.ref a] ∧ SqT K H a (ns.map V.int) ∧ Q (.int ns.sum) H
theorem cr_sumT (hc : X.calm = true) : CallR X (.builtin "sum") (rSumT X.K) := by
  intro pins s σ H vs us Q I r h
  obtain ⟨a, ns, rfl, hs, q⟩ := h
  obtain ⟨its, rv, hl, _⟩ := I.tuple hs
  rw [Vals.ref1 r]
  have hi := rv.ints
  obtain ⟨xs, ex⟩ := hi.allInts.items
  have hn : numsOf (intItems xs).toList = ns := by rw [← ex]; exact hi.numsOf
  rw [nums_intItems] at hn
  have hl' : s.heap.IsTuple a (intItems xs) := by rw [← ex]; exact hl
  refine PySem.W.ktm_sumG (I.ok.hd hc) hl' fun h' tk t' hk => ⟨.int _, H, I.kept hk, ⟨t', ?_⟩, q⟩
  rw [preSum_eq, List.take_of_length_le (by simp), hn]
theorem c_sumT {ns : List Int} (hc : X.calm = true) (hm : X.mg "sum" = none) (ha : CE X ρ a (.tup (ns.map D.int)) ρ1) (hg : Gl X "sum" := by rfl)
    (he : starEach [a] X.env = (false, eval a X.env) :: starEach [] X.env := by rfl) (hpl : (backTo pos (starEach [] X.env)).any (·.1) = false := by rfl) : CE X ρ (.Call (.Name "sum" p) [a] [] pos) (.int ns.sum) ρ1 :=
  c_blt (cr_sumT hc) (fun F O ρ σ H vs Q I r q => by
    obtain ⟨v, rfl, ru⟩ := one_of r
    cases ru with
    | tup h1 s1 =>
      rw [s1.ints] at h1
      exact ⟨_, _, rfl, hid_ex.t h1, q _ _ I (.int _)⟩) hm (by decide +kernel) (d_cons ha d_nil he) hg (he := he) (hpl := hpl)
/-! ### max of a tuple -/
theorem max_tupInts {prog : Program} {w : World} {A : Around} {E : Value → Shared → Prop} {s : Shared} {t : Addr} {xs : Array (Int × Tok)} {Q : Value → Shared → Prop} (hh : A.handled = none) (ht : s.heap.IsTuple t (intItems xs)) (hne : 0 < xs.size)
    (h : ∀ v h' tk, (intItems xs)[argBest (fun i j => decide (numAt xs i > numAt xs j)) (xs.size - 1)]? = some v → (∀ b o, s.heap.get? b = some o → h'.get? b = some o) → Q v { s with heap := h', toks := tk }) :
    wpAny (model prog w) A (call (.builtin "max") [.ref t]) Q E s := by
  obtain ⟨o, ho, hc, n, hd⟩ := id ht
  have hne' : t ≠ s.heap.objs.size := Nat.ne_of_lt (Heap.lt_size ho)
  refine call_max_walk (wpAny_pyIter_tuple ht ?_)
  refine ⟨_, _, _, _, _, _, _, rfl, Walks.tuple (A := A.in1) hh s.heap.objs.size t hne' (intItems xs), ⟨⟨_, Heap.get?_push_size _ rfl, rfl, rfl⟩, ht.at fun o e => Heap.get?_push_of_some _ e⟩, fun b hb => ?_, by simpa [intItems] using hne, CmpOf.ints_gt (numAt xs) (fun _ _ => intItems_at), fun v h' tk hP hk => ?_⟩
  · rcases List.mem_cons.mp hb with rfl | hb
    · exact Heap.lt_size (Heap.get?_push_size _ rfl)
    · obtain rfl := List.mem_singleton.mp hb
      exact Heap.lt_size (Heap.get?_push_of_some _ ho)
  · refine h v h' tk (by simpa [intItems] using hP) fun b o e => hk b o (fun hm => ?_) (Heap.get?_push_of_some _ e)
    rcases List.mem_cons.mp hm with e1 | hm
    · exact absurd (e1 ▸ Heap.lt_size e) (Nat.lt_irrefl _)
    · cases hm
def rMaxT (K : PySem.W.Frag) : List V → Hp → VK → Prop := fun vs H Q => ∃ (a : Addr) (ns : List Int), vs = [V.ref a] ∧ SqT K H a (ns.map V.int) ∧ 0 < ns.length ∧ ∀ m, m ∈ ns → (∀ y, y ∈ ns → y ≤ m) → Q (.int m) H
theorem cr_maxT (hc : X.calm = true) : CallR X (.builtin "max") (rMaxT X.K) := by
  intro pins s σ H vs us Q I r h
  obtain ⟨a, ns, rfl, hs, hne, q⟩ := h
  obtain ⟨its, rv, hl, _⟩ := I.tuple hs
  rw [Vals.ref1 r]
  have hi := rv.ints
  obtain ⟨xs, ex⟩ := hi.allInts.items
  have hn : numsOf (intItems xs).toList = ns := by rw [← ex]; exact hi.numsOf
  rw [nums_intItems] at hn
  subst hn
  have hl' : s.heap.IsTuple a (intItems xs) := by rw [← ex]; exact hl
  have hsz : 0 < xs.size := by simpa using hne
  refine max_tupInts (I.ok.hd hc) hl' hsz fun v h' tk hv hk => ?_
  obtain ⟨t, rfl⟩ := intItems_at hv
  obtain ⟨h1, h2⟩ := argBest_gt (numAt xs) (xs.size - 1)
  refine ⟨.int _, H, I.kept hk, ⟨t, rfl⟩, q _ ?_ fun a ha => ?_⟩
  · rw [numAt_eq]; exact PySem.getD_mem (by rw [List.length_map, Array.length_toList]; omega)
  · obtain ⟨j, hj, rfl⟩ := mem_getD ha
    rw [List.length_map, Array.length_toList] at hj
    rw [← numAt_eq]; exact h2 j (by omega)
/-- the greatest -/
def maxI : List Int → Int
  | [] => 0
  | x :: xs => xs.foldl max x
theorem maxI_spec : ∀ (xs : List Int), xs ≠ [] → maxI xs ∈ xs ∧ ∀ y ∈ xs, y ≤ maxI xs
  | [], h => absurd rfl h
  | x :: xs, _ => by
    have key : ∀ (l : List Int) (z : Int), (l.foldl max z = z ∨ l.foldl max z ∈ l) ∧ z ≤ l.foldl max z ∧ ∀ y ∈ l, y ≤ l.foldl max z := fun l => by
      induction l with
      | nil => intro z; exact ⟨.inl rfl, Int.le_refl _, fun y hy => by cases hy⟩
      | cons u l ih =>
        intro z
        obtain ⟨h1, h2, h3⟩ := ih (max z u)
        show (l.foldl max (max z u) = z ∨ _ ∈ u :: l) ∧ z ≤ l.foldl max (max z u) ∧ _
        refine ⟨?_, by omega, fun y hy => ?_⟩
        · rcases h1 with h1 | h1
          · by_cases hz : u ≤ z
            · left; rw [h1]; omega
            · right; rw [List.mem_cons]; left
              show l.foldl max (max z u) = u
              rw [h1]; omega
          · right; exact List.mem_cons_of_mem _ h1
        · rcases List.mem_cons.mp hy with rfl | hy
          · have := h2
            show y ≤ l.foldl max (max z y)
            omega
          · exact h3 y hy
    obtain ⟨h1, h2, h3⟩ := key xs x
    refine ⟨?_, fun y hy => ?_⟩
    · rcases h1 with h1 | h1
      · show xs.foldl max x ∈ _; rw [h1]; exact List.mem_cons_self
      · exact List.mem_cons_of_mem _ h1
    · rcases List.mem_cons.mp hy with rfl | hy
      · exact h2
      · exact h3 y hy
theorem maxI_uniq {xs : List Int} {m : Int} (h : m ∈ xs) (h2 : ∀ y ∈ xs, y ≤ m) : m = maxI xs := by
  obtain ⟨a, b⟩ := maxI_spec xs (fun e => by rw [e] at h; cases h)
  have := h2 _ a
  have := b _ h
  omega
theorem c_maxT {ns : List Int} (hc : X.calm = true) (hm : X.mg "max" = none) (ha : CE X ρ a (.tup (ns.map D.int)) ρ1) (hne : 0 < ns.length) (hg : Gl X "max" := by rfl)
    (he : starEach [a] X.env = (false, eval a X.env) :: starEach [] X.env := by rfl) (hpl : (backTo pos (starEach [] X.env)).any (·.1) = false := by rfl) : CE X ρ (.Call (.Name "max" p) [a] [] pos) (.int (maxI ns)) ρ1 :=
  c_blt (cr_maxT hc) (fun F O ρ σ H vs Q I r q => by
    obtain ⟨v, rfl, ru⟩ := one_of r
    cases ru with
    | tup h1 s1 =>
      rw [s1.ints] at h1
      exact ⟨_, _, rfl, hid_ex.t h1, hne, fun m h2 h3 => by rw [maxI_uniq h2 h3]; exact q _ _ I (.int _)⟩) hm (by decide +kernel) (d_cons ha d_nil he) hg (he := he) (hpl := hpl)
theorem c_maxL {ns : List Int} (hc : X.calm = true) (hm : X.mg "max" = none) (ha : CE X ρ a (.lst (ns.map D.int)) ρ1) (hne : 0 < ns.length) (hg : Gl X "max" := by rfl)
    (he : starEach [a] X.env = (false, eval a X.env) :: starEach [] X.env := by rfl) (hpl : (backTo pos (starEach [] X.env)).any (·.1) = false := by rfl) : CE X ρ (.Call (.Name "max" p) [a] [] pos) (.int (maxI ns)) ρ1 :=
  c_blt (cr_max hc) (fun F O ρ σ H vs Q I r q => by
    obtain ⟨v, rfl, ru⟩ := one_of r
    cases ru with
    | lst h1 s1 =>
      rw [s1.ints] at h1
      exact ⟨_, _, rfl, .of (hid_ex _ _ h1), hne, fun m h2 h3 => by rw [maxI_uniq h2 h3]; exact q _ _ I (.int _)⟩) hm (by decide +kernel) (d_cons ha d_nil he) hg (he := he) (hpl := hpl)
end
/-! ### [::-1] -/
open HT in
theorem sliceApplied_rev {prog : Program} {w : World} {A : Around} {E : Value → Shared → Prop} {s : Shared} {sl : Addr} {vl vu vs : Value} {n : Nat} {Q : Int × Int × Nat → Shared → Prop} (hs : s.heap.IsSliceOf sl vl vu vs) (pl : IsPart vl none) (pu : IsPart vu none) (ps : IsPart vs (some (-1)))
    (h : Q (((n : Int) - 1), -1, n) s) : wpAny (model prog w) A (Builtin.Slice.sliceApplied (.ref sl) (pure (n : Int))) Q E s := by
  obtain ⟨os, hos, hcs, hds⟩ := id hs
  unfold Builtin.Slice.sliceApplied Builtin.Slice.sliceFields
  refine wpAny_bind (wpAny_bind (wpAny_field hos hds (x := vl) rfl (wpAny_bind (wpAny_field hos hds (x := vu) rfl (wpAny_bind (wpAny_field hos hds (x := vs) rfl (wpAny_pure ?_)))))))
  refine wpAny_bind (slicePart_ ps ?_)
  show wpAny _ _ (if ((-1 : Int) == 0) = true then _ else _) _ _ s
  rw [if_neg (by decide)]
  refine wpAny_bind (slicePart_ pl (wpAny_bind (slicePart_ pu (wpAny_bind (wpAny_pure ?_)))))
  show wpAny _ _ (match Builtin.Slice.sliceAdjust none none (-1) (n : Int) with | (lo, hi) => pure (lo, (-1 : Int), Builtin.Slice.slicePlaces lo hi (-1))) _ _ s
  have e : Builtin.Slice.sliceAdjust none none (-1) (n : Int) = ((n : Int) - 1, -1) := rfl
  rw [e]
  show wpAny _ _ (pure ((n : Int) - 1, (-1 : Int), Builtin.Slice.slicePlaces ((n : Int) - 1) (-1) (-1))) _ _ s
  have e2 : Builtin.Slice.slicePlaces ((n : Int) - 1) (-1) (-1) = n := by
    unfold Builtin.Slice.slicePlaces
    simp only [show ¬ ((-1 : Int) > 0) by omega, if_false, Int.neg_neg, Int.ediv_one]
    split <;> omega
  rw [e2]
  exact wpAny_pure h
theorem pick_rev (xs : Array Value) : ((List.range xs.size).filterMap fun (m : Nat) => xs[(((xs.size : Int) - 1) + (m : Int) * (-1)).toNat]?).toArray = xs.toList.reverse.toArray := by
  congr 1
  have e : ∀ m, m ∈ List.range xs.size → xs[(((xs.size : Int) - 1) + (m : Int) * (-1)).toNat]? = some (xs.toList.reverse.getD m .none) := fun m hm => by
    rw [List.mem_range] at hm
    have : (((xs.size : Int) - 1) + (m : Int) * (-1)).toNat = xs.size - 1 - m := by omega
    have hlt : xs.size - 1 - m < xs.toList.length := by rw [Array.length_toList]; omega
    rw [this, List.getD_eq_getElem?_getD, List.getElem?_reverse (by simpa using hm), Array.length_toList, List.getElem?_eq_getElem hlt]
    rw [Array.getElem?_eq_getElem (by omega)]
    simp
  have : ∀ l : List Nat, (∀ m ∈ l, m ∈ List.range xs.size) → l.filterMap (fun (m : Nat) => xs[(((xs.size : Int) - 1) + (m : Int) * (-1)).toNat]?) = l.map fun m => xs.toList.reverse.getD m .none := fun l => by
    induction l with
    | nil => intro _; rfl
    | cons m l ih =>
      intro h
      rw [List.filterMap_cons, e m (h m List.mem_cons_self), List.map_cons, ih fun k hk => h k (List.mem_cons_of_mem _ hk)]
  rw [this _ fun _ h => h]
  apply List.ext_getElem?
  intro k
  rw [List.getElem?_map]
  by_cases hk : k < xs.size
  · rw [List.getElem?_range hk, List.getElem?_eq_getElem (by simpa using hk)]
    show some (xs.toList.reverse.getD k .none) = _
    rw [List.getD_eq_getElem?_getD, List.getElem?_eq_getElem (by simpa using hk)]
    rfl
  · rw [List.getElem?_eq_none (by rw [List.length_range]; omega), List.getElem?_eq_none (by simp; omega)]; rfl
open HT in
theorem getItem_tuple_rev {prog : Program} {w : World} {A : Around} {E : Value → Shared → Prop} {s : Shared} {t sl : Addr} {items : Array Value} {vl vu vs : Value} {Q : Value → Shared → Prop} (ht : IsTup s.heap t items) (hs : s.heap.IsSliceOf sl vl vu vs) (pl : IsPart vl none) (pu : IsPart vu none) (ps : IsPart vs (some (-1)))
    (h : Q (.ref s.heap.objs.size) { s with heap := s.heap.push { cls := .type "tuple", data := .seq items.toList.reverse.toArray } })
    (hsz : items.size ≤ sizeLine) : wpAny (model prog w) A (getItem (.ref t) (.ref sl)) Q E s := by
  have htake : sizeOk (.seq items.toList.reverse.toArray) := by
    show items.toList.reverse.toArray.size ≤ sizeLine
    rw [List.size_toArray, List.length_reverse, Array.length_toList]
    exact hsz
  obtain ⟨os, hos, hcs, hds⟩ := id hs
  have hTs : s.TypeIs (.ref sl) "slice" := ⟨os, hos, hcs⟩
  unfold getItem
  try with_reducible refine wpAny_holding ?_
  first | refine wpAny_bind (wpAny_pure ?_) | skip
  refine wpAny_bind (wpAny_sequenceKey ht.typeIs (by decide) ?_)
  refine wpAny_bind (wpAny_callSpecial?_slot (name := Str.ofString "__getitem__") ht.typeIs PyProof.Rows.slot_tuple_getitem
    (wpAny_call_entry PyProof.Rows.slot_tuple_getitem ht.typeIs entry_tuple_getitem ?_ (args_tuple_getitem _ _)))
  show wpAny _ _ (Builtin.Tuple.tupleItemsOf (.ref t) >>= _) _ _ s
  refine wpAny_bind (tupleItemsOf_ ht ?_)
  refine wpAny_bind (wpAny_typeOf hTs ?_)
  rw [if_pos (by decide)]
  refine wpAny_bind (sliceApplied_rev hs pl pu ps ?_)
  show wpAny _ _ (if ((((items.size : Int) - 1)) == 0 && (-1 : Int) == 1 && items.size == items.size) = true then _ else _) _ _ s
  have hno : ¬ (((((items.size : Int) - 1)) == 0 && (-1 : Int) == 1 && items.size == items.size) = true) := by simp
  rw [if_neg hno, pick_rev]
  first
    | exact wpAny_bind (m := Builtin.Tuple.tupleExact _) (wpAny_newObj_type (wpAny_pure ⟨_, rfl, wpAny_pure h⟩) htake)
    | exact wpAny_bind (m := Builtin.Tuple.tupleExact _) (wpAny_newObj_type (wpAny_bind (wpAny_pure (wpAny_pure ⟨_, rfl, wpAny_pure h⟩))) htake)
    | exact wpAny_bind (wpAny_bind (m := Builtin.Tuple.tupleExact _) (wpAny_newObj_type (wpAny_pure (wpAny_pure ⟨_, rfl, wpAny_pure h⟩)) htake))
    | exact wpAny_bind (wpAny_bind (m := Builtin.Tuple.tupleExact _) (wpAny_newObj_type (wpAny_pure ⟨_, rfl, wpAny_pure h⟩) htake))
def tRevT (K : PySem.W.Frag) (te : TE) : TE := fun σ H Q => te σ H fun x H1 => ∃ a xs, x = .ref a ∧ SqT K H1 a xs ∧ ∀ p, H1 p = none → Q (.ref p) (upd H1 p (.tup xs.reverse))
section
variable {X : Cx} {e a b c tg : Expr} {es : List Expr} {ρ ρ1 ρ2 ρ3 ρ' : Lo} {x y d : D} {pos p p2 : Pos} {F F' : Hp} {O : Addr → Prop} {σ : L2.St} {H H' S T : Hp} {i j : Nat} {n m : Str} {ds es' : List D} {q : Addr} {K : PySem.W.Frag}
theorem pe_revT {e : Expr} {te : TE} {k : Nat} {p1 p2 p3 pos : Pos} (he : PE X e te) : PE X (.Subscript e (.Slice none none (some (.UnaryOp .USub (.Constant (.int 1) k p1) p2)) p3) pos) (tRevT X.K te) := by
  refine ⟨fun pins s σ H Q I h => ?_⟩
  refine Subscript_ (thn (he.run pins s σ H _ I h) fun v s1 ⟨x, H1, I1, r1, q1⟩ => ?_)
  obtain ⟨a, xs, ex, hx, q⟩ := q1
  subst ex
  cases r1
  have hst : PO X (some (.UnaryOp .USub (.Constant (.int 1) k p1) p2)) (tPart (tUn (rU fun i => .int (-i)) (tC (.int 1)))) := po_some (pe_un un_neg pe_int)
  refine wpAny_Slice (thn (po_none.run pins s1 σ H1 (fun o H2 => o = none ∧ H2 = H1) I1 ⟨rfl, rfl⟩) fun vl s2 ⟨l, H2, I2, pl, el, e2⟩ => ?_)
  subst el e2
  refine thn (po_none.run pins s2 σ H2 (fun o H3 => o = none ∧ H3 = H2) I2 ⟨rfl, rfl⟩) fun vu s3 ⟨u, H3, I3, pu, eu, e3⟩ => ?_
  subst eu e3
  refine thn (hst.run pins s3 σ H3 (fun o H4 => o = some (-1) ∧ H4 = H3) I3 ⟨1, rfl, -1, rfl, rfl, rfl⟩) fun vs s4 ⟨o, H4, I4, ps, eo, e4⟩ => ?_
  subst eo e4
  have I5 : Inv X pins σ H4 { s4 with heap := s4.heap.push { cls := .type "slice", data := .fields #[vl, vu, vs] } } := I4.kept (t' := s4.toks) fun b ob q => Heap.get?_push_of_some _ q
  obtain ⟨its, r, ht, hz⟩ := I5.tuple hx
  have hlen := r.length
  show wpAny (model X.prog X.w) X.A (subscriptTail e (.Slice none none (some (.UnaryOp .USub (.Constant (.int 1) k p1) p2)) p3) (.ref a) (.ref s4.heap.objs.size)) (EP X pins σ Q) X.xe { s4 with heap := s4.heap.push { cls := .type "slice", data := .fields #[vl, vu, vs] } }
  refine tail_any (ops := [.ref a, .ref s4.heap.objs.size]) ht.typeIs (PyProof.Rows.slot_tuple_getitem.lookup) ?_ (by with_unfolding_all rfl)
  refine getItem_tuple_rev ht (Heap.IsSliceOf.new _ vl vu vs) pl pu ps ?_ (by rw [List.size_toArray]; omega)
  refine ⟨.ref _, _, I5.laid (t' := s4.toks) (o := .tup xs.reverse) (fun b ob q => Heap.get?_push_of_some _ q) (Nat.le_refl _) ?_, rfl, q _ (I5.hok.fresh (Nat.le_refl _))⟩
  exact ⟨by rw [List.length_reverse]; exact hz, _, r.reverse, ⟨_, Heap.get?_push_size _ rfl, rfl, 0, rfl⟩⟩
theorem c_revT {ds : List D} {k : Nat} {p1 p3 : Pos} (h : CE X ρ a (.tup ds) ρ1) : CE X ρ (.Subscript a (.Slice none none (some (.UnaryOp .USub (.Constant (.int 1) k p1) p2)) p3) pos) (.tup ds.reverse) ρ1 := .of (pe_revT pe_tw) ⟨h.1, fun F O σ H Q I q => h.2 F O σ H _ I fun v H1 J r => by
  cases r with
  | tup h1 rs => exact ⟨_, _, rfl, hid_ex.t h1, fun p hp => q _ _ (J.new hp) (.tup (.of (J.newHid hp)) (rs.reverse.mono (ex_new hp)))⟩⟩
theorem n_revL {ds : List D} {k : Nat} {p1 p3 : Pos} (h : CE X ρ a (.lst ds) ρ1) : CN X ρ (.Subscript a (.Slice none none (some (.UnaryOp .USub (.Constant (.int 1) k p1) p2)) p3) pos) ds.reverse ρ1 := .of (pe_revL pe_tw) ⟨h.1, fun F O σ H Q I q => h.2 F O σ H _ I fun v H1 J r => by
  cases r with
  | lst h1 rs => exact ⟨_, _, rfl, .of (hid_ex _ _ h1), fun p hp => q p _ H1 J hp rs.reverse⟩⟩
end
end VL
end

section
set_option Elab.async false
set_option linter.all false
set_option maxRecDepth 100000
set_option maxHeartbeats 4000000
namespace VL
open PySem PySem.Spec PyProof.Rows L2
/-! ### what the laws share -/
/-- exceptions, as every context sees them -/
abbrev EX0 (P : Program) (w : World) (K : PySem.W.Frag) (mg : Str → Option Value) (base : Heap) (x : Str) (C : Addr) : Prop := ∀ X : Cx, X.prog = P → X.w = w → X.K = K → X.mg = mg → X.base = base → Xc X x C
abbrev EX1 (P : Program) (w : World) (K : PySem.W.Frag) (mg : Str → Option Value) (base : Heap) (x f : Str) (C : Addr) : Prop := ∀ X : Cx, X.prog = P → X.w = w → X.K = K → X.mg = mg → X.base = base → Xi X x f C
theorem nat_of {n : Int} (h : 0 ≤ n) : ∃ m : Nat, n = m := ⟨n.toNat, by omega⟩
def intQ : D → Bool
  | .int _ => true
  | _ => false
def within (d : D) (lo hi : Int) : Bool := match d with
  | .int i => decide (lo ≤ i) && decide (i ≤ hi)
  | _ => false
theorem at_last {α : Type} {xs : List α} {x : α} (h : xs[xs.length - 1]? = some x) : atI xs (-1) = some x := by
  have hl : 0 < xs.length := by
    have := (List.getElem?_eq_some_iff.mp h).1
    omega
  have e : ixN xs.length (-1) = some (xs.length - 1) := by
    unfold ixN
    rw [if_neg (by decide), if_pos (by omega)]
    congr 1
    omega
  unfold atI
  rw [e]
  exact h
def intsD (l : List D) : List Int := l.map fun x => match x with
  | .int c => c
  | _ => 0
theorem intsD_map (cs : List Int) : intsD (cs.map D.int) = cs := by
  unfold intsD
  rw [List.map_map]
  exact List.map_id cs
def Lt2 (b : Nat) (x : Int) : Prop := x.natAbs < 2 ^ b
theorem Lt2.log {b : Nat} {x : Int} (h : Lt2 b x) : x.natAbs.log2 ≤ b := by
  by_cases h0 : x.natAbs = 0
  · rw [h0]; exact Nat.zero_le _
  · exact Nat.le_of_lt ((Nat.log2_lt h0).mpr h)
theorem Lt2.mono {b c : Nat} {x : Int} (h : Lt2 b x) (hc : b ≤ c) : Lt2 c x := Nat.lt_of_lt_of_le h (Nat.pow_le_pow_right (by decide) hc)
theorem Lt2.mul {b c : Nat} {x y : Int} (h : Lt2 b x) (g : Lt2 c y) : Lt2 (b + c) (x * y) := by
  unfold Lt2 at *
  rw [Int.natAbs_mul, Nat.pow_add]
  exact Nat.mul_lt_mul'' h g
theorem Lt2.sub {b : Nat} {x y : Int} (h : Lt2 b x) (g : Lt2 b y) : Lt2 (b + 1) (y - x) := by
  unfold Lt2 at *
  rw [Nat.pow_succ]
  omega
theorem Lt2.add {b : Nat} {x y : Int} (h : Lt2 b x) (g : Lt2 b y) : Lt2 (b + 1) (x + y) := by
  unfold Lt2 at *
  rw [Nat.pow_succ]
  omega
theorem Lt2.div {b : Nat} {x : Int} (h : Lt2 b x) (k : Nat) : Lt2 b (x / ((k : Int) + 1)) := by
  unfold Lt2 at *
  refine Nat.lt_of_le_of_lt ?_ h
  have := Int.natAbs_ediv_le_natAbs x ((k : Int) + 1)
  omega
structure Hd where
  cells : List Int
  i : Nat
  left : Int
  seed : Int
  cnt : Int
def Hd.ds (h : Hd) : List D := [.lst (h.cells.map D.int), .int (h.i : Nat), .int h.left, .int h.seed, .int h.cnt]
def Hd.turn (h : Hd) : Hd := if h.left = 0 ∧ h.i < h.cells.length then ⟨h.cells, h.i + 1, if 10 ^ 18 ≤ h.cells.getD h.i 0 then h.cells.getD h.i 0 else h.left, (h.seed * 69621 + h.cells.getD h.i 0 * 40692 + handA) % 2147483629, h.cnt⟩ else h
def mixed (seed cnt : Int) : Int :=
  let n1 := ((seed + 7919 * cnt) * 48271) % 2147483647
  let n2 := (n1 * (n1 / 1009 + 69621)) % 2147483647
  let n3 := (n2 * (n2 / 2003 + 40014)) % 2147483563
  n3 / 16
def Hd.draw (h : Hd) (many : Int) : Int := if 0 < h.turn.left then h.turn.left % many else mixed h.turn.seed (h.turn.cnt + 1) % many
def Hd.next (h : Hd) (many : Int) : Hd := if 0 < h.turn.left then { h.turn with left := h.turn.left / many } else { h.turn with cnt := h.turn.cnt + 1 }
theorem Hd.draw_lt {h : Hd} {many : Int} (hm : 0 < many) : 0 ≤ h.draw many ∧ h.draw many < many := by
  unfold Hd.draw
  split <;> exact ⟨Int.emod_nonneg _ (by omega), Int.emod_lt_of_pos _ hm⟩
def Hd.new (k : Int) (ns : List Int) : Hd := let c := (ns.take 63).map fun n => if n < 0 then -n else n; ⟨c, 0, 0, k + handM * (c.length : Nat), 0⟩
def A_law_hand (k : Int) (ds es : List D) : Prop := ∃ ns : List Int, ds = [.frl (ns.map D.int)] ∧ ns.length ≤ 63 ∧ es = (Hd.new k ns).ds
def A_law_draw (cs ds : List D) (R : Res → List D → Prop) : Prop := ∃ (h : Hd) (many : Int), cs = h.ds ∧ ds = [.int many] ∧ 0 < many ∧ many < 2 ^ 100 ∧ R (.ok (.int (h.draw many))) (h.next many).ds
def A_law_any (cs ds : List D) (R : Res → List D → Prop) : Prop := ∃ (h : Hd) (l : List D), cs = h.ds ∧ ds = [.lst l] ∧ l ≠ [] ∧ l.length ≤ 1000 ∧ R (.ok (l.getD (h.draw (l.length : Nat)).toNat .non)) (h.next (l.length : Nat)).ds
theorem h0 (h : Hd) : h.ds.length = 5 := rfl
def nest (d : D) (k : Int) : D := ([.tup [d], .lst [d], .dic [(.inl 0, d)]] : List D).getD k.toNat .non
def deepGo : Nat → D → Hd → D × Hd
  | 0, d, h => (d, h)
  | n + 1, d, h => let p := deepGo n d h; (nest p.1 (p.2.draw 3), p.2.next 3)
def deepF (h : Hd) : D × Hd :=
  let h1 := h.next 3
  deepGo (1 + h1.draw 29).toNat (([.non, .str "0", .bl true] : List D).getD (h.draw 3).toNat .non) (h1.next 29)
theorem lt3 {h : Hd} : h.draw 3 = 0 ∨ h.draw 3 = 1 ∨ h.draw 3 = 2 := by
  have := Hd.draw_lt (h := h) (many := 3) (by decide)
  omega
def deepOk : D → Bool
  | .tup _ => true
  | .lst _ => true
  | .dic _ => true
  | _ => false
theorem nest_ok (d : D) (h : Hd) : deepOk (nest d (h.draw 3)) = true := by
  rcases lt3 (h := h) with e | e | e <;> (rw [e]; rfl)
theorem deep_ok (h : Hd) : deepOk (deepF h).1 = true := by
  unfold deepF
  have := Hd.draw_lt (h := h.next 3) (many := 29) (by decide)
  obtain ⟨n, hn⟩ : ∃ n, (1 + (h.next 3).draw 29).toNat = n + 1 := ⟨((h.next 3).draw 29).toNat, by omega⟩
  simp only [hn]
  exact nest_ok _ _
def A_law_deep (cs ds : List D) (R : Res → List D → Prop) : Prop := ∃ h : Hd, cs = h.ds ∧ ds = [] ∧ R (.ok (deepF h).1) (deepF h).2.ds
theorem getD_mem {l : List D} {k : Nat} (h : k < l.length) : l.getD k .non ∈ l := by
  rw [List.getD_eq_getElem?_getD, List.getElem?_eq_getElem h]
  exact List.getElem_mem h
theorem cutD_neg1 (xs : List D) : VL.cutD xs none (some (-1)) = xs.take (xs.length - 1) := by
  have e : HT.sIx xs.length xs.length (some (-1)) = xs.length - 1 := by
    show (if (-1 : Int) < 0 then ((-1 : Int) + (xs.length : Int)).toNat else min (-1 : Int).toNat xs.length) = _
    rw [if_pos (by decide)]
    omega
  unfold VL.cutD
  rw [HT.sIx_none, List.drop_zero, Nat.sub_zero, e]
def sumTo (f : Nat → Int) : Nat → Int
  | 0 => 0
  | m + 1 => sumTo f m + f m
theorem sumTo_congr {f g : Nat → Int} : ∀ m, (∀ t, t < m → f t = g t) → sumTo f m = sumTo g m
  | 0, _ => rfl
  | m + 1, h => by
    show sumTo f m + f m = sumTo g m + g m
    rw [sumTo_congr m fun t ht => h t (by omega), h m (by omega)]
theorem sumTo_head (f : Nat → Int) : ∀ m, sumTo f (m + 1) = f 0 + sumTo (fun t => f (t + 1)) m
  | 0 => by show 0 + f 0 = f 0 + 0; omega
  | m + 1 => by
    show sumTo f (m + 1) + f (m + 1) = f 0 + (sumTo (fun t => f (t + 1)) m + f (m + 1))
    rw [sumTo_head f m]; omega
theorem sumTo_add (f g : Nat → Int) : ∀ m, sumTo (fun t => f t + g t) m = sumTo f m + sumTo g m
  | 0 => rfl
  | m + 1 => by
    show sumTo (fun t => f t + g t) m + (f m + g m) = _ + f m + (_ + g m)
    rw [sumTo_add f g m]; omega
theorem sumTo_sub (f g : Nat → Int) : ∀ m, sumTo (fun t => f t - g t) m = sumTo f m - sumTo g m
  | 0 => rfl
  | m + 1 => by
    show sumTo (fun t => f t - g t) m + (f m - g m) = _ + f m - (_ + g m)
    rw [sumTo_sub f g m]; omega
theorem sumTo_mul (a : Int) (f : Nat → Int) : ∀ m, sumTo (fun t => a * f t) m = a * sumTo f m
  | 0 => (Int.mul_zero a).symm
  | m + 1 => by
    show sumTo (fun t => a * f t) m + a * f m = a * (sumTo f m + f m)
    rw [sumTo_mul a f m, Int.mul_add]
theorem sumTo_rev (f : Nat → Int) : ∀ m, sumTo (fun t => f (m - t)) (m + 1) = sumTo f (m + 1)
  | 0 => rfl
  | m + 1 => by
    rw [sumTo_head (fun t => f (m + 1 - t))]
    have e : sumTo (fun t => f (m + 1 - (t + 1))) (m + 1) = sumTo (fun t => f (m - t)) (m + 1) := sumTo_congr _ fun t _ => by rw [Nat.add_sub_add_right]
    rw [e, sumTo_rev f m]
    show f (m + 1 - 0) + sumTo f (m + 1) = sumTo f (m + 1) + f (m + 1)
    rw [Nat.sub_zero]; omega
theorem sumTo_swap (g : Nat → Nat → Int) (a : Nat) : ∀ m, sumTo (fun t => sumTo (fun i => g i t) a) m = sumTo (fun i => sumTo (g i) m) a
  | 0 => by
    show 0 = sumTo (fun _ => 0) a
    induction a with
    | zero => rfl
    | succ a ih => show 0 = sumTo (fun _ => 0) a + 0; omega
  | m + 1 => by
    show sumTo (fun t => sumTo (fun i => g i t) a) m + sumTo (fun i => g i m) a = sumTo (fun i => sumTo (g i) m + g i m) a
    rw [sumTo_swap g a m, ← sumTo_add]
theorem sumTo_one : ∀ m, sumTo (fun _ => 1) m = m
  | 0 => rfl
  | m + 1 => by
    show sumTo (fun _ => 1) m + 1 = _
    rw [sumTo_one m]; omega
theorem sumTo_pos {f : Nat → Int} : ∀ m, (∀ t, t < m → 1 ≤ f t) → (m : Int) ≤ sumTo f m
  | 0, _ => Int.le_refl _
  | m + 1, h => by
    show ((m + 1 : Nat) : Int) ≤ sumTo f m + f m
    have h1 := sumTo_pos m fun t ht => h t (by omega)
    have h2 := h m (by omega)
    omega
def drawsOf (h : Hd) (m : Int) : Nat → List Int × Hd
  | 0 => ([], h)
  | n + 1 => let p := drawsOf h m n; (p.1 ++ [p.2.draw m], p.2.next m)
theorem drawsOf_len (h : Hd) (m : Int) : ∀ n, (drawsOf h m n).1.length = n
  | 0 => rfl
  | n + 1 => by
    show ((drawsOf h m n).1 ++ [_]).length = _
    rw [List.length_append, drawsOf_len h m n]; rfl
theorem drawsOf_in (h : Hd) {m : Int} (hm : 0 < m) : ∀ n, ∀ x ∈ (drawsOf h m n).1, 0 ≤ x ∧ x < m
  | 0, x, hx => by cases hx
  | n + 1, x, hx => by
    rcases List.mem_append.mp (show x ∈ (drawsOf h m n).1 ++ [(drawsOf h m n).2.draw m] from hx) with hx | hx
    · exact drawsOf_in h hm n x hx
    · rw [List.mem_singleton] at hx
      subst hx
      exact Hd.draw_lt hm
theorem sum_sumTo : ∀ (n : Nat) (f : Nat → Int), ((List.range n).map f).sum = sumTo f n
  | 0, _ => rfl
  | n + 1, f => by
    rw [List.range_succ, List.map_append, List.sum_append, sum_sumTo n f]
    show sumTo f n + (f n + 0) = sumTo f n + f n
    omega
theorem sum_getD (l : List Int) : l.sum = sumTo (fun j => l.getD j 0) l.length := by
  rw [← sum_sumTo]
  congr 1
  apply List.ext_getElem?
  intro k
  rw [List.getElem?_map]
  by_cases hk : k < l.length
  · rw [List.getElem?_range hk, List.getElem?_eq_getElem hk, Option.map_some, List.getD_eq_getElem?_getD, List.getElem?_eq_getElem hk]
    rfl
  · rw [List.getElem?_eq_none (by omega), List.getElem?_eq_none (by rw [List.length_range]; omega)]; rfl
/-- a list by its places -/
theorem list_range {α : Type} (l : List α) (d : α) : l = (List.range l.length).map fun j => l.getD j d := by
  apply List.ext_getElem?
  intro k
  rw [List.getElem?_map]
  by_cases hk : k < l.length
  · rw [List.getElem?_range hk, List.getElem?_eq_getElem hk, Option.map_some, List.getD_eq_getElem?_getD, List.getElem?_eq_getElem hk]
    rfl
  · rw [List.getElem?_eq_none (by omega), List.getElem?_eq_none (by rw [List.length_range]; omega)]; rfl
theorem rng_get {α : Type} {f : Nat → α} {n k : Nat} (h : k < n) : ((List.range n).map f)[k]? = some (f k) := by
  rw [List.getElem?_map, List.getElem?_range h]; rfl
theorem rng_getD {α : Type} {f : Nat → α} {n k : Nat} {d : α} (h : k < n) : ((List.range n).map f).getD k d = f k := by
  rw [List.getD_eq_getElem?_getD, rng_get h]; rfl
theorem at_getD {l : List Int} {k : Nat} (h : k < l.length) : l[k]? = some (l.getD k 0) := by
  rw [List.getD_eq_getElem?_getD, List.getElem?_eq_getElem h]; rfl
/-! ### _law_is: data without dicts, of a depth -/
mutual
def isPl : Nat → D → Bool
  | _, .non => true
  | _, .bl _ => true
  | _, .int _ => true
  | _, .str _ => true
  | n + 1, .tup l => decide (l.length < 100000) && isPls n l
  | n + 1, .lst l => decide (l.length < 100000) && isPls n l
  | _, _ => false
def isPls : Nat → List D → Bool
  | _, [] => true
  | n, d :: ds => isPl n d && isPls n ds
end
theorem isPls_mem {n : Nat} : ∀ {l : List D}, isPls n l = true → ∀ d ∈ l, isPl n d = true
  | [], _, d, h => by cases h
  | e :: es, h, d, hd => by
    unfold isPls at h
    rw [Bool.and_eq_true] at h
    rcases List.mem_cons.mp hd with rfl | hd
    · exact h.1
    · exact isPls_mem h.2 d hd
theorem isPls_of {n : Nat} : ∀ {l : List D}, (∀ d ∈ l, isPl n d = true) → isPls n l = true
  | [], _ => by unfold isPls; rfl
  | e :: es, h => by
    unfold isPls
    rw [Bool.and_eq_true]
    exact ⟨h e List.mem_cons_self, isPls_of fun d hd => h d (List.mem_cons_of_mem _ hd)⟩
theorem isPl_int {n : Nat} {i : Int} : isPl n (.int i) = true := by cases n <;> rfl
theorem isPls_ints {n : Nat} (l : List Int) : isPls n (l.map D.int) = true := isPls_of fun d hd => by
  obtain ⟨i, _, rfl⟩ := List.mem_map.mp hd
  exact isPl_int
theorem isPl_tupI {n : Nat} {l : List Int} (h : l.length < 100000) : isPl (n + 1) (.tup (l.map D.int)) = true := by
  unfold isPl
  rw [Bool.and_eq_true]
  exact ⟨decide_eq_true (by rw [List.length_map]; exact h), isPls_ints l⟩
theorem isPl_lstI {n : Nat} {l : List Int} (h : l.length < 100000) : isPl (n + 1) (.lst (l.map D.int)) = true := by
  unfold isPl
  rw [Bool.and_eq_true]
  exact ⟨decide_eq_true (by rw [List.length_map]; exact h), isPls_ints l⟩
theorem isPl_plD {n : Nat} {d : D} (h : isPl n d = true) : plD d = true := by
  cases d <;> first | rfl | (cases n <;> cases h)
/-- the same: true -/
def A_law_is (n : Nat) (ds : List D) (r : Res) : Prop := ∃ d, ds = [d, d] ∧ isPl n d = true ∧ r = .ok (.bl true)
/-- scalars -/
def isSc : D → Bool
  | .non => true
  | .bl _ => true
  | .int _ => true
  | .str _ => true
  | _ => false
theorem zip_same {l : List D} {i : Nat} {d : D} (h : (zipD l l)[i]? = some d) : ∃ x, x ∈ l ∧ d = .tup [x, x] := by
  obtain ⟨x, y, h1, h2, rfl⟩ := zipD_inv h
  rw [h1] at h2
  cases h2
  exact ⟨x, List.mem_of_getElem? h1, rfl⟩
theorem zipD_len {xs ys : List D} : (zipD xs ys).length = min xs.length ys.length := by unfold zipD; rw [List.length_zipWith]
theorem all_rep (n : Nat) : (List.replicate n true).all id = true := by
  rw [List.all_eq_true]; intro b hb; rw [List.eq_of_mem_replicate hb]; rfl
/-! ### a, b, c = [..], [1, 2], 3 -/
section
variable {X : Cx} {e a b c : Expr} {es : List Expr} {ρ ρ1 ρ2 : Lo} {pos p : Pos} {ds : List D} {rest : List Stmt} {W : WE} {n m : Str}
/-- a display of written ints -/
def LitI (X : Cx) (b : Expr) (ys : List Int) : Prop := ∃ tb, PE X b tb ∧ ∀ σ H Q, (∀ p, H p = none → Q (.ref p) (upd H p (.lst (ys.map V.int)))) → tb σ H Q
theorem lit0 : LitI X (.List [] pos) [] := ⟨_, pe_lst pa_nil, fun σ H Q q => ⟨by decide, q⟩⟩
theorem lit1 {i : Int} {j p1} : LitI X (.List [.Constant (.int i) j p1] pos) [i] := ⟨_, pe_lst (pa_cons pe_int pa_nil), fun σ H Q q => ⟨sz (by simp), q⟩⟩
theorem css_par3L (i j l : Nat) {m2 : Str} {px py pz pt pt2 pc : Pos} {kt k2 jc} {ys : List Int} {z : Int} (B : Bd X) (ha : CN X ρ a ds ρ1) (hb : LitI X b ys) (k : ∀ q p, CSs X (((ρ1.set i (.mut q ds)).set j (.mut p (ys.map D.int))).set l (.dat (.int z))) rest W) (hli : i < ρ1.length := by first | decide | simp) (hlj : j < ρ1.length := by first | decide | simp) (hij : i ≠ j := by decide) (hil : i ≠ l := by decide) (hjl : j ≠ l := by decide)
    (hi : X.N[i]? = some n := by rfl) (hj : X.N[j]? = some m := by rfl) (hl : X.N[l]? = some m2 := by rfl)
    (hx : X.env.scope.names.lookup n = some .local := by rfl) (hy : X.env.scope.names.lookup m = some .local := by rfl) (hz : X.env.scope.names.lookup m2 = some .local := by rfl)
    (hw : swappedStores [.Tuple [.Name n px, .Name m py, .Name m2 pz] kt pt] (.Tuple [a, b, .Constant (.int z) jc pc] k2 pt2) X.env = pure (some [n, m, m2]) := by rfl)
    (hs : swapsWithSole [.Tuple [.Name n px, .Name m py, .Name m2 pz] kt pt] (.Tuple [a, b, .Constant (.int z) jc pc] k2 pt2) pos.line X.env = pure false := by rfl)
    (he : starEach [a, b, .Constant (.int z) jc pc] X.env = (false, eval a X.env) :: starEach [b, .Constant (.int z) jc pc] X.env := by rfl) (he2 : starEach [b, .Constant (.int z) jc pc] X.env = (false, eval b X.env) :: starEach [.Constant (.int z) jc pc] X.env := by rfl) (he3 : starEach [.Constant (.int z) jc pc] X.env = (false, eval (.Constant (.int z) jc pc) X.env) :: starEach [] X.env := by rfl) :
    CSs X ρ (.Assign [.Tuple [.Name n px, .Name m py, .Name m2 pz] kt pt] (.Tuple [a, b, .Constant (.int z) jc pc] k2 pt2) pos :: rest) W := by
  obtain ⟨tb, pb, qb⟩ := hb
  refine css_of (ps_par3 B.calm B.nd hi hj hl hij hil hjl hx hy hz (pa_cons pe_tw (pa_cons pb (pa_cons pe_int pa_nil he3) he2) he) hw hs) fun F O σ H E I r => ha.2 F O σ H _ I fun q vs H1 J hp rv => qb _ _ _ fun p hp2 => ⟨.ref q, .ref p, .int z, rfl, r.nx _ _ _ (k q p) ?_⟩
  have M := J.own1 (i := i) hp rv hli
  have M2 := M.own1 (i := j) hp2 (Reps.ofInts ys) (by rw [List.length_set]; exact hlj)
  exact M2.set (.int z)
end
theorem zipD_ints {xs ys : List Int} (h : ys.length = xs.length) : zipD (xs.map D.int) (ys.map D.int) = (List.range xs.length).map fun k => D.tup [.int (xs.getD k 0), .int (ys.getD k 0)] := by
  apply List.ext_getElem?
  intro k
  by_cases hk : k < xs.length
  · rw [rng_get hk]
    exact zipD_get (at_ints (at_getD hk)) (at_ints (at_getD (by omega)))
  · rw [List.getElem?_eq_none (by rw [zipD_len, List.length_map, List.length_map]; omega), List.getElem?_eq_none (by rw [List.length_map, List.length_range]; omega)]
theorem ints_rng (xs : List Int) : xs.map D.int = (List.range xs.length).map fun k => D.int (xs.getD k 0) := by
  conv => lhs; rw [list_range xs 0]
  rw [List.map_map]; rfl
theorem mulW_of {x y : Int} {b c : Nat} (h1 : Lt2 b x) (h2 : Lt2 c y) (h : b + c < 1000000) : CMulW x y := by
  have a1 := h1.log
  have a2 := h2.log
  unfold CMulW; omega
theorem im_tup (l : List Int) : immut (.tup (l.map D.int)) = true := by unfold immut; exact immutL_ints l
theorem map_succ {α β : Type} (f : Nat → α) (g : α → β) (i : Nat) : ((List.range (i + 1)).map f).map g = ((List.range i).map f).map g ++ [g (f i)] := by
  rw [List.range_succ, List.map_append, List.map_append]; rfl
theorem pick_int {ns : List Int} {k : Nat} (h : k < ns.length) : ∃ n, n ∈ ns ∧ (ns.map D.int).getD k .non = .int n := by
  refine ⟨ns.getD k 0, List.mem_of_getElem? (at_getD h), ?_⟩
  rw [List.getD_eq_getElem?_getD, at_ints (at_getD h)]
  rfl
theorem pick_draw {h : Hd} {ns : List Int} (hn : ns ≠ []) : ∃ n, n ∈ ns ∧ (ns.map D.int).getD (h.draw (ns.length : Nat)).toNat .non = .int n := by
  have hl : 0 < ns.length := List.length_pos_iff.mpr hn
  have := Hd.draw_lt (h := h) (many := (ns.length : Nat)) (by omega)
  exact pick_int (by omega)
/-- a list of ints picked from, as a number -/
def pickI (ns : List Int) (h : Hd) : Int := ns.getD (h.draw (ns.length : Nat)).toNat 0
theorem pickI_mem {ns : List Int} {h : Hd} (hn : ns ≠ []) : pickI ns h ∈ ns := by
  have hl : 0 < ns.length := List.length_pos_iff.mpr hn
  have := Hd.draw_lt (h := h) (many := (ns.length : Nat)) (by omega)
  exact List.mem_of_getElem? (at_getD (by omega))
theorem pickI_eq {ns : List Int} {h : Hd} (hn : ns ≠ []) : (ns.map D.int).getD (h.draw (ns.length : Nat)).toNat .non = .int (pickI ns h) := by
  have hl : 0 < ns.length := List.length_pos_iff.mpr hn
  have := Hd.draw_lt (h := h) (many := (ns.length : Nat)) (by omega)
  rw [List.getD_eq_getElem?_getD, at_ints (at_getD (by omega))]
  rfl
/-! ### t * 1 -/
section
open AutoSeq1 (wpAny_loadPart')
theorem tuple_mulW1 (l : Addr) (items : Array Value) (n : Nat) (dd : Option Addr) (sl : Array (Option Value)) (u : Tok) :
    Meets (Builtin.«tuple.__mul__» ⟨[.ref l, .int 1 u], []⟩) (fun _ R s => s.heap.get? l = some { cls := .type "tuple", dict := dd, data := .seq items n, slots := sl } ∧
      R (.ok (.ret (Value.ref l))) s) :=
  .of_wp fun prog w A R s h => by
    obtain ⟨hp, g, d, tk, os⟩ := s
    obtain ⟨hl, h⟩ := h
    have f1 := AutoSeq1.idx_int
    wp_walk using wpAny_loadPart' hl
    exact ⟨_, rfl, h⟩
end
def rRepT1 (K : PySem.W.Frag) : R2 := fun x y H Q => ∃ l xs, x = .ref l ∧ y = .int 1 ∧ SqT K H l xs ∧ Q (.ref l) H
theorem op_repT1 {X : Cx} : OpR X (binaryOp .Mult) (rRepT1 X.K) := by
  intro pins s σ H x y v u Q I rx ry h
  obtain ⟨l, xs, rfl, rfl, hT, q⟩ := h
  cases rx
  obtain ⟨t, rfl⟩ := ry
  obtain ⟨its, r, ⟨⟨cls, dd, data, sl⟩, ho, hc, n, hd⟩, hs⟩ := I.tuple hT
  simp only at hc hd
  subst hc hd
  exact wpAny_binaryOp_repeat_ref (T := "tuple") (U := "int") (by decide) ⟨_, ho, rfl⟩ (fun s' => typeIs_int s' 1 t) noFill_tuple_mul F.fills_int_mul F.slot_int_rmul repeat_tuple F.slot_int_index.lookup
    (call_meets F.slot_int_rmul (typeIs_int s 1 t) F.entry_int_rmul (F.args_int_rmul_2 _ _) (int_rmul_tuple 1 t l its.toArray n dd sl)
      ⟨ho, rfl, ⟨_, ho, rfl⟩, call_meets F.slot_tuple_mul ⟨_, ho, rfl⟩ F.entry_tuple_mul (F.args_tuple_mul_2 _ _) (tuple_mulW1 l its.toArray n dd sl t) ⟨ho, ⟨.ref l, H, I, rfl, q⟩⟩⟩)
section
variable {X : Cx} {a b : Expr} {ρ ρ1 ρ2 : Lo} {pos : Pos} {i : Int}
theorem c_repT1 {xs : List D} (ha : CE X ρ a (.tup xs) ρ1) (hb : CE X ρ1 b (.int 1) ρ2) : CE X ρ (.BinOp a .Mult b pos) (.tup xs) ρ2 := c_bin op_repT1 (fun F O ρ σ H v w Q I r1 r2 q => by
  cases r2
  cases r1 with
  | tup h1 s1 => exact ⟨_, _, rfl, rfl, hid_ex.t h1, q _ _ I (.tup h1 s1)⟩) ha hb
theorem c_repTN {x : D} (ha : CE X ρ a (.tup [x]) ρ1) (hb : CE X ρ1 b (.int i) ρ2) (hi : 1 ≤ i ∧ i ≤ 1000) : CE X ρ (.BinOp a .Mult b pos) (.tup (List.replicate i.toNat x)) ρ2 := by
  by_cases h : i = 1
  · subst h
    exact c_repT1 ha hb
  · have := c_repT (pos := pos) ha hb (by simp) ⟨by omega, hi.2⟩ (by simp)
    rw [flat1] at this
    exact this
end
/-- (a, b) of which a is loose -/
theorem qe_tup2 {X : Cx} {a b : Expr} {ρ : Lo} {R : D → Lo → Prop} {x1} {pos : Pos} (ha : QE X ρ a fun d1 ρ1 => ∃ d2 ρ2, CE X ρ1 b d2 ρ2 ∧ R (.tup [d1, d2]) ρ2)
    (he : starEach [a, b] X.env = (false, eval a X.env) :: starEach [b] X.env := by rfl) (he2 : starEach [b] X.env = (false, eval b X.env) :: starEach [] X.env := by rfl) : QE X ρ (.Tuple [a, b] x1 pos) R := fun F O σ H Q I qq pins s Iv => by
  refine (pe_tup (pa_cons pe_tw (pa_cons pe_tw pa_nil he2) he)).run pins s σ H Q Iv ?_
  refine ha F O σ H _ I fun d1 ρ1 v H1 hR1 o1 J r1 => ?_
  obtain ⟨d2, ρ2, hb, hR⟩ := hR1
  refine hb.2 _ O σ H1 _ J.sup fun w H2 L r2 => ?_
  have L' := L.weak J.le_sup J.od
  have r1' := SOk.keep hb.1 L r1
  exact ⟨sz (by simp), fun p hp => qq (.tup [d1, d2]) ρ2 (.ref p) _ hR (hb.1.trans o1) (L'.new hp) (.tup (.of (L'.newHid hp)) (Reps.mono (ex_new hp) (.cons r1' (.cons r2 .nil))))⟩
/-- what is nested -/
theorem deep_in {P : D → Prop} (hP : ∀ x, P x → P (.tup [x]) ∧ P (.lst [x]) ∧ P (.dic [(.inl 0, x)])) : ∀ n d h, P d → P (deepGo n d h).1
  | 0, d, h, hd => hd
  | n + 1, d, h, hd => by
    have ih := deep_in hP n d h hd
    obtain ⟨a, b, c⟩ := hP _ ih
    show P (nest (deepGo n d h).1 ((deepGo n d h).2.draw 3))
    rcases lt3 (h := (deepGo n d h).2) with e | e | e <;> rw [e]
    · exact a
    · exact b
    · exact c
theorem deep_cases {P : D → Prop} (h0 : P .non) (h1 : P (.str "0")) (h2 : P (.bl true)) (hP : ∀ x, P x → P (.tup [x]) ∧ P (.lst [x]) ∧ P (.dic [(.inl 0, x)])) (h : Hd) : ∃ x, P x ∧ ((deepF h).1 = .tup [x] ∨ (deepF h).1 = .lst [x] ∨ (deepF h).1 = .dic [(.inl 0, x)]) := by
  unfold deepF
  have := Hd.draw_lt (h := h.next 3) (many := 29) (by decide)
  obtain ⟨n, hn⟩ : ∃ n, (1 + (h.next 3).draw 29).toNat = n + 1 := ⟨((h.next 3).draw 29).toNat, by omega⟩
  simp only [hn]
  have hb : P (([.non, .str "0", .bl true] : List D).getD (h.draw 3).toNat .non) := by
    rcases lt3 (h := h) with e | e | e <;> rw [e]
    · exact h0
    · exact h1
    · exact h2
  generalize ([.non, .str "0", .bl true] : List D).getD (h.draw 3).toNat .non = d at hb
  have ih := deep_in hP n d ((h.next 3).next 29) hb
  refine ⟨(deepGo n d ((h.next 3).next 29)).1, ih, ?_⟩
  show nest _ _ = _ ∨ nest _ _ = _ ∨ nest _ _ = _
  rcases lt3 (h := (deepGo n d ((h.next 3).next 29)).2) with e | e | e <;> rw [e]
  · exact .inl rfl
  · exact .inr (.inl rfl)
  · exact .inr (.inr rfl)
/-! ### the end -/
section
open VLH
def excDB (K : PySem.W.Frag) (D : Addr) : Bool := (PySem.W.clsIn K D).isSome && (decide (PySem.W.findIn K (.ref D) "__getattribute__" = some (some (.builtin "BaseException.__getattribute__"))) && (decide (PySem.W.findIn K (.ref D) "__getattr__" = some none) && (decide (PySem.W.subIn K (.ref D) (.type "BaseException") = some true) && (decide (PySem.W.findIn K (.ref D) "__class__" = some (some (.builtin "object.__class__"))) && (decide (PySem.W.specialIn K (.builtin "object.__class__") "__get__" = some (some (.builtin "getset_descriptor.__get__"))) && (decide (PySem.W.takesIn K (.builtin "object.__class__") = some true) && decide (PySem.W.mroIn K D (.type "object") = some true)))))))
theorem excDB_ok {K : PySem.W.Frag} {D : Addr} (h : excDB K D = true) : ExcD K D := by
  unfold excDB at h
  simp only [Bool.and_eq_true, decide_eq_true_eq] at h
  obtain ⟨h1, h2, h3, h4, h5, h6, h7, h8⟩ := h
  exact ⟨h1, h2, h3, h4, h5, h6, h7, h8⟩
theorem xi_mk {x fd0 : Str} {X' : Cx} {P : Program} {w : World} {K : PySem.W.Frag} {mg : Str → Option Value} {base : Heap} {aC f0 : Addr} {fd : FuncData} {ps : List Str} (e1 : X'.prog = P) (e2 : X'.w = w) (e3 : X'.K = K) (e4 : X'.mg = mg) (e5 : X'.base = base) (g : mg x = some (.ref aC)) (o : OexC K aC) (nf : PySem.W.findIn K (.ref aC) fd0 = some none) (h1 : PySem.W.findIn K (.ref aC) "__init__" = some (some (.ref f0))) (h2 : PySem.W.typeIn K (.ref f0) = some (.type "function")) (h3 : FnOk P w K mg base (L2N.CX P w) 1 f0 fd ps (spInit K fd0)) (h4 : Binds K fd ps []) : Xi X' x fd0 aC := by
  subst e1 e2 e3 e4 e5
  exact ⟨g, o, nf, f0, fd, ps, h1, h2, h3, h4⟩
end
end VL
end

section
set_option Elab.async false
set_option linter.all false
set_option maxRecDepth 100000
set_option maxHeartbeats 4000000
namespace VL
open PySem PySem.Spec PyProof.Rows L2
/-! ### instances: fields, making -/
instance {a : Addr} : NT (.own a) := ⟨fun _ z => by cases z⟩
theorem RepF.lookup {K : PySem.W.Frag} {H : Hp} {f : Str} {d : D} : ∀ {fvs : List (Str × V)} {fs : List (Str × D)}, RepF K H fvs fs → fs.lookup f = some d → ∃ v, fvs.lookup f = some v ∧ Rep K H v d
  | _, _, .nil, e => by cases e
  | _, _, .cons (k := k) (v := v) h r, e => by
    rw [List.lookup_cons] at e ⊢
    cases q : f == k with
    | true => rw [q] at e; cases e; exact ⟨_, rfl, h⟩
    | false => rw [q] at e; exact r.lookup e
section
variable {X : Cx} {e a b c : Expr} {es : List Expr} {ρ ρ1 ρ2 : Lo} {pos p : Pos} {ds : List D} {d : D} {K : PySem.W.Frag} {F : Hp} {O : Addr → Prop} {σ : L2.St} {H : Hp}
theorem c_fld {C : Addr} {fs : List (Str × D)} {f : Str} (c : Cls X.K C) (n : NoAttr X.K C f) (ha : CE X ρ e (.ins C fs) ρ1) (hl : fs.lookup f = some d := by rfl) (hb : attributeBase e f X.env (eval e X.env) = eval e X.env := by rfl) : CE X ρ (.Attribute e f pos) d ρ1 :=
  .of (pe_fld pe_tw hb) ⟨ha.1, fun F O σ H Q I q => ha.2 F O σ H _ I fun v H1 J r => by
    cases r with
    | ins h1 rf =>
      obtain ⟨u, e1, ru⟩ := rf.lookup hl
      exact ⟨_, _, _, _, u, rfl, hid_ex _ _ h1, c, n, e1, q _ _ J ru⟩⟩
mutual
/-- no instance within -/
def noIns : D → Bool
  | .tup l => noInsL l
  | .lst l => noInsL l
  | .frl l => noInsL l
  | .dic l => noInsK l
  | .ins _ _ => false
  | .exc _ _ _ => false
  | _ => true
def noInsL : List D → Bool
  | [] => true
  | d :: ds => noIns d && noInsL ds
def noInsK : List (Key × D) → Bool
  | [] => true
  | d :: ds => noIns d.2 && noInsK ds
end
theorem noInsL_ints : ∀ ns : List Int, noInsL (ns.map D.int) = true
  | [] => rfl
  | n :: ns => by rw [List.map_cons]; unfold noInsL; rw [noInsL_ints ns]; rfl
mutual
/-- what has no instance within does not see one change -/
theorem Rep.unins {U : Addr → Prop} {H' : Hp} {x C dx : Addr} {fv : List (Str × V)} (hx : H x = some (.ins C dx fv)) (hH : ∀ a, a ≠ x → H' a = H a) : ∀ {v : V} {d : D}, noIns d = true → Rep K (hid U H) v d → Rep K (hid U H') v d
  | _, _, _, .non => .non
  | _, _, _, .bl b => .bl b
  | _, _, _, .int i => .int i
  | _, _, _, .str x => .str x
  | _, _, _, .ty n => .ty n
  | _, _, _, .adr a => .adr a
  | _, _, m, .tup q r => by
    have m : noInsL _ = true := m
    refine .tup ?_ (Reps.unins hx hH m r)
    rcases q with q | q
    · refine .inl ?_
      rcases q with q | ⟨o, q⟩
      · obtain ⟨n, q⟩ := of_hid q
        exact .inl (hid_of n (by rw [hH _ (fun z => by rw [z, hx] at q; cases q)]; exact q))
      · obtain ⟨n, q⟩ := of_hid q
        exact .inr ⟨o, hid_of n (by rw [hH _ (fun z => by rw [z, hx] at q; cases q)]; exact q)⟩
    · exact .inr q
  | _, _, m, .lst q r => by
    have m : noInsL _ = true := m
    obtain ⟨n, q⟩ := of_hid q
    exact .lst (hid_of n (by rw [hH _ (fun z => by rw [z, hx] at q; cases q)]; exact q)) (Reps.unins hx hH m r)
  | _, _, m, .frl q r => by
    have m : noInsL _ = true := m
    refine .frl ?_ (Reps.unins hx hH m r)
    rcases q with q | q
    · refine .inl ?_
      rcases q with q | ⟨o, q⟩
      · obtain ⟨n, q⟩ := of_hid q
        exact .inl (hid_of n (by rw [hH _ (fun z => by rw [z, hx] at q; cases q)]; exact q))
      · obtain ⟨n, q⟩ := of_hid q
        exact .inr ⟨o, hid_of n (by rw [hH _ (fun z => by rw [z, hx] at q; cases q)]; exact q)⟩
    · exact .inr q
  | _, _, m, .dic q r => by
    have m : noInsK _ = true := m
    obtain ⟨n, q⟩ := of_hid q
    exact .dic (hid_of n (by rw [hH _ (fun z => by rw [z, hx] at q; cases q)]; exact q)) (RepK.unins hx hH m r)
  | _, _, m, .ins q r => nomatch m
  | _, _, m, .exc q r => nomatch m
theorem Reps.unins {U : Addr → Prop} {H' : Hp} {x C dx : Addr} {fv : List (Str × V)} (hx : H x = some (.ins C dx fv)) (hH : ∀ a, a ≠ x → H' a = H a) : ∀ {v : List V} {d : List D}, noInsL d = true → Reps K (hid U H) v d → Reps K (hid U H') v d
  | _, _, _, .nil => .nil
  | _, _, m, .cons q r => by
    unfold noInsL at m
    rw [Bool.and_eq_true] at m
    exact .cons (Rep.unins hx hH m.1 q) (Reps.unins hx hH m.2 r)
theorem RepK.unins {U : Addr → Prop} {H' : Hp} {x C dx : Addr} {fv : List (Str × V)} (hx : H x = some (.ins C dx fv)) (hH : ∀ a, a ≠ x → H' a = H a) : ∀ {v : List (Key × V)} {d : List (Key × D)}, noInsK d = true → RepK K (hid U H) v d → RepK K (hid U H') v d
  | _, _, _, .nil => .nil
  | _, _, m, .cons q r => by
    unfold noInsK at m
    rw [Bool.and_eq_true] at m
    exact .cons (Rep.unins hx hH m.1 q) (RepK.unins hx hH m.2 r)
end
def noInsF : List (Str × D) → Bool
  | [] => true
  | d :: ds => noIns d.2 && noInsF ds
theorem RepF.unins {U : Addr → Prop} {H' : Hp} {x C dx : Addr} {fv : List (Str × V)} (hx : H x = some (.ins C dx fv)) (hH : ∀ a, a ≠ x → H' a = H a) : ∀ {v : List (Str × V)} {d : List (Str × D)}, noInsF d = true → RepF K (hid U H) v d → RepF K (hid U H') v d
  | _, _, _, .nil => .nil
  | _, _, m, .cons q r => by
    unfold noInsF at m
    rw [Bool.and_eq_true] at m
    exact .cons (Rep.unins hx hH m.1 q) (RepF.unins hx hH m.2 r)
def noInsS : Lo → Bool
  | [] => true
  | .un :: r => noInsS r
  | .dat d :: r => noIns d && noInsS r
  | .mut _ ds :: r => noInsL ds && noInsS r
theorem noInsS_dat : ∀ {ρ : Lo} {i : Nat} {d : D}, noInsS ρ = true → ρ[i]? = some (.dat d) → noIns d = true
  | [], i, d, _, e => by simp at e
  | .un :: r, 0, d, _, e => by simp at e
  | .dat d' :: r, 0, d, h, e => by
    rw [List.getElem?_cons_zero] at e; cases e
    unfold noInsS at h; rw [Bool.and_eq_true] at h; exact h.1
  | .mut _ _ :: r, 0, d, _, e => by simp at e
  | .un :: r, i + 1, d, h, e => by rw [List.getElem?_cons_succ] at e; exact noInsS_dat (ρ := r) h e
  | .dat d' :: r, i + 1, d, h, e => by
    rw [List.getElem?_cons_succ] at e
    unfold noInsS at h; rw [Bool.and_eq_true] at h; exact noInsS_dat h.2 e
  | .mut _ _ :: r, i + 1, d, h, e => by
    rw [List.getElem?_cons_succ] at e
    unfold noInsS at h; rw [Bool.and_eq_true] at h; exact noInsS_dat h.2 e
theorem noInsS_mut : ∀ {ρ : Lo} {i : Nat} {p : Addr} {ds : List D}, noInsS ρ = true → ρ[i]? = some (.mut p ds) → noInsL ds = true
  | [], i, p, d, _, e => by simp at e
  | .un :: r, 0, p, d, _, e => by simp at e
  | .dat d' :: r, 0, p, d, h, e => by simp at e
  | .mut _ _ :: r, 0, p, d, h, e => by
    rw [List.getElem?_cons_zero] at e; cases e
    unfold noInsS at h; rw [Bool.and_eq_true] at h; exact h.1
  | .un :: r, i + 1, p, d, h, e => by rw [List.getElem?_cons_succ] at e; exact noInsS_mut (ρ := r) h e
  | .dat d' :: r, i + 1, p, d, h, e => by
    rw [List.getElem?_cons_succ] at e
    unfold noInsS at h; rw [Bool.and_eq_true] at h; exact noInsS_mut h.2 e
  | .mut _ _ :: r, i + 1, p, d, h, e => by
    rw [List.getElem?_cons_succ] at e
    unfold noInsS at h; rw [Bool.and_eq_true] at h; exact noInsS_mut h.2 e
/-- a def that fills its own new instance: slot 0 holds its address -/
structure ISt (K : PySem.W.Frag) (F : Hp) (O : Addr → Prop) (x C dx : Addr) (fs : List (Str × D)) (ρ : Lo) (σ : L2.St) (H : Hp) : Prop where
  ok : SOk K F O ρ σ H
  self : ρ[0]? = some (.dat (.adr x))
  nf : F x = none
  no : ¬ O x
  ins : ∃ fvs, H x = some (.ins C dx fvs) ∧ RepF K (hid (UU O ρ) H) fvs fs
theorem ISt.nown {x C dx : Addr} {fs : List (Str × D)} (I : ISt K F O x C dx fs ρ σ H) : ¬ UU O ρ x := fun z => by
  rcases z with z | z
  · exact I.no z
  · obtain ⟨vs, e⟩ := I.ok.ownH z
    obtain ⟨fvs, e2, _⟩ := I.ins
    rw [e] at e2
    cases e2
theorem ISt.at0 {x C dx : Addr} {fs : List (Str × D)} (I : ISt K F O x C dx fs ρ σ H) : σ[0]? = some (some (.ref x)) := by
  obtain ⟨v, h1, h2⟩ := I.ok.dat 0 _ I.self
  cases h2
  exact h1
/-- the instance as a datum -/
theorem ISt.vis {x C dx : Addr} {fs : List (Str × D)} (I : ISt K F O x C dx fs ρ σ H) : SOk K F O (ρ.set 0 (.dat (.ins C fs))) σ H := by
  obtain ⟨fvs, h1, h2⟩ := I.ins
  have e : σ.set 0 (some (.ref x)) = σ := by
    have h0 := I.at0
    cases σ with
    | nil => rfl
    | cons y r => simp at h0; subst h0; rfl
  have M := I.ok.set (i := 0) (v := .ref x) (d := .ins C fs) (.ins (hid_of I.nown h1) h2)
  rw [e] at M
  exact M
/-- .. and back -/
theorem SOk.unvis {x : Addr} {ρ : Lo} (h0 : σ[0]? = some (some (.ref x))) (I : SOk K F O ρ σ H) : SOk K F O (ρ.set 0 (.dat (.adr x))) σ H := by
  have e : σ.set 0 (some (.ref x)) = σ := by
    cases σ with
    | nil => rfl
    | cons y r => simp at h0; subst h0; rfl
  have M := I.set (i := 0) (v := .ref x) (d := .adr x) (.adr x)
  rw [e] at M
  exact M
end
end VL
end

section
set_option Elab.async false
set_option linter.all false
set_option maxRecDepth 100000
set_option maxHeartbeats 4000000
namespace VL
open PySem PySem.Spec PyProof.Rows L2
section
variable {X : Cx} {e a b c : Expr} {es : List Expr} {ρ ρ1 ρ2 ρ' : Lo} {pos p : Pos} {ds : List D} {d : D} {K : PySem.W.Frag} {F F' : Hp} {O : Addr → Prop} {σ σ' : L2.St} {H H' : Hp} {rest : List Stmt}
/-- statements that fill the instance -/
def CSI (X : Cx) (x C dx : Addr) (fs : List (Str × D)) (ρ : Lo) (ss : List Stmt) (R : List (Str × D) → Prop) : Prop := ∀ F O σ H (D' : Ends), ISt X.K F O x C dx fs ρ σ H →
  (∀ fs' ρ' σ' H', R fs' → ISt X.K F O x C dx fs' ρ' σ' H' → D'.nx σ' H') → ∀ (pins : List (Addr × Obj)) (s : Shared), Inv X pins σ H s → wpAny (model X.prog X.w) X.A (execs ss X.env) (SP X pins D') X.xe s
theorem csi_nil {x C dx : Addr} {fs : List (Str × D)} {R : List (Str × D) → Prop} (h : R fs) : CSI X x C dx fs ρ [] R := fun F O σ H D' I k pins s J => pss_nil.run pins s σ H D' J (k fs ρ σ H h I)
/-- held while other things run -/
theorem ISt.keep {x C dx : Addr} {fs : List (Str × D)} (I : ISt K F O x C dx fs ρ σ H) (J : SOk K (VL.sup ρ H) O ρ' σ' H') (ow : owns ρ' = owns ρ) (hs : ρ'[0]? = some (.dat (.adr x))) : ISt K F O x C dx fs ρ' σ' H' := by
  obtain ⟨fvs, h1, h2⟩ := I.ins
  refine ⟨J.weak I.ok.le_sup I.ok.od, hs, I.nf, I.no, fvs, J.fr x _ (hid_of (fun z => I.nown (.inr z)) h1), ?_⟩
  refine h2.mono (ex_hid fun a o _ n h => ⟨?_, J.fr a o (hid_of (fun z => n (Or.inr z)) h)⟩)
  unfold UU at n ⊢
  rw [ow]
  exact n
/-- any statement that keeps what is owned -/
theorem csi_cs {x C dx : Addr} {fs : List (Str × D)} {st : Stmt} {R : List (Str × D) → Prop} {P : Lo → Prop} {Wx : WX} (tk : L2N.Takes X Wx) (h : CS X ρ st { nx := fun ρ' => P ρ', rt := fun _ _ => False }) (hP : ∀ ρ', P ρ' → owns ρ' = owns ρ ∧ ρ'[0]? = some (.dat (.adr x)) ∧ CSI X x C dx fs ρ' rest R) : CSI X x C dx fs ρ (st :: rest) R := fun F O σ H D' I k pins s J => by
  refine (pss_cons (ps_tw (X := X)) pss_tw).run pins s σ H D' J ?_
  refine fun pins s J => h (VL.sup ρ H) O σ H _ I.ok.sup ⟨fun ρ' σ' H' p L => ?_, fun d ρ' σ' H' v z => False.elim z, fun ρ' σ' H' z => False.elim z, fun ρ' σ' H' z => False.elim z, ⟨Wx, tk, fun er ρ' σ' H' cls dd z => False.elim z⟩⟩ pins s J
  obtain ⟨ow, hs, hc⟩ := hP ρ' p
  exact hc F O σ' H' D' (I.keep L ow hs) k
/-- self.f = e -/
theorem csi_fld {x C dx : Addr} {fs : List (Str × D)} {f n : Str} {R : List (Str × D) → Prop} {sp1 sp2 sp3 : Pos} (cl : Cls X.K C) (na : NoAttr X.K C f) (he : CE X (ρ.set 0 (.dat (.ins C fs))) e d ((ρ.set 0 (.dat (.ins C fs))))) (h0 : ρ[0]? = some (.dat (.adr x)))
    (hni : noIns d = true) (hnf : noInsF fs = true) (hns : noInsS ρ = true) (hnew : fs.lookup f = none := by rfl) (hlen : fs.length < 900 := by decide) (k : CSI X x C dx (fs ++ [(f, d)]) ρ rest R) (hN : X.N[0]? = some n := by rfl) (hv : Vis X.env.scope n := by first | exact Or.inl rfl | exact Or.inr (Or.inl rfl) | exact Or.inr (Or.inr rfl))
    (h1 : (n == ("__debug__" : Str)) = false := by decide) (h2 : (n == ("__classdict__" : Str)) = false := by decide) (hs : swapsWith e (some (.Attribute (.Name n sp1) f sp2)) sp3.line X.env = pure false := by rfl) : CSI X x C dx fs ρ (.Assign [.Attribute (.Name n sp1) f sp2] e sp3 :: rest) R := fun F O σ H D' I kk pins s J => by
  refine (pss_cons (ps_fld (pe_var hN hv h1 h2) (pe_tw (X := X) (e := e)) hs) pss_tw).run pins s σ H D' J ?_
  obtain ⟨fvs0, i1, i2⟩ := I.ins
  have hset : (ρ.set 0 (.dat (.ins C fs))).set 0 (.dat (.adr x)) = ρ := by
    rw [List.set_set]
    cases ρ with
    | nil => rfl
    | cons y r => simp at h0; subst h0; rfl
  have how : owns (ρ.set 0 (.dat (.ins C fs))) = owns ρ := funext fun a => propext ⟨fun z => owns_set datNe z, fun ⟨ds, z⟩ => by
    obtain ⟨j, hj⟩ := List.getElem?_of_mem z
    have : j ≠ 0 := fun e => by subst e; rw [h0] at hj; cases hj
    exact ⟨ds, List.mem_of_getElem? (i := j) (by rw [List.getElem?_set_ne (Ne.symm this)]; exact hj)⟩⟩
  have hsup : VL.sup (ρ.set 0 (.dat (.ins C fs))) H = VL.sup ρ H := by unfold VL.sup; rw [how]
  refine he.2 (VL.sup (ρ.set 0 (.dat (.ins C fs))) H) O σ H _ I.vis.sup fun v H1 L rv => ?_
  have L2 := SOk.unvis (x := x) I.at0 L
  rw [hset, hsup] at L2
  have I1 := I.keep L2 rfl h0
  obtain ⟨fvs, j1, j2⟩ := I1.ins
  refine ⟨.ref x, I1.at0, x, C, dx, fvs, rfl, j1, cl, na, ?_, ?_⟩
  · have : ∀ {a : List (Str × V)} {b : List (Str × D)}, RepF X.K (hid (UU O ρ) H1) a b → a.length = b.length := fun {a b} r => by
      induction a generalizing b with
      | nil => cases r; rfl
      | cons y a ih => cases r with | cons h r => rw [List.length_cons, List.length_cons, ih r]
    rw [this j2]; omega
  have rv' : Rep X.K (hid (UU O ρ) H1) v d := by
    unfold UU at rv ⊢
    rw [how] at rv
    exact rv
  have hput : putF f v fvs = fvs ++ [(f, v)] := by
    have : ∀ {a : List (Str × V)} {b : List (Str × D)}, RepF X.K (hid (UU O ρ) H1) a b → b.lookup f = none → putF f v a = a ++ [(f, v)] := fun {a b} r e => by
      induction a generalizing b with
      | nil => rfl
      | cons y a ih =>
        cases r with
        | @cons k' v' vs' d' ds' h r =>
          rw [List.lookup_cons] at e
          cases q : f == k' with
          | true => rw [q] at e; cases e
          | false =>
            rw [q] at e
            have := ih r e
            have hne : k' ≠ f := fun z => by rw [z] at q; simp at q
            show (if k' = f then _ else _) = _
            rw [if_neg hne, this]
            rfl
    exact this j2 hnew
  have hne : ∀ a, a ≠ x → upd H1 x (.ins C dx (putF f v fvs)) a = H1 a := fun a n => upd_ne n
  refine k F O σ _ D' ⟨⟨L2.len, fun i d' e1 => ?_, fun i q ds e1 => ?_, L2.nd, fun a o e1 => ?_, I.ok.od, ?_, I.ok.ft⟩, h0, I.nf, I.no, fvs ++ [(f, v)], by rw [upd_same, hput], ?_⟩ kk
  · obtain ⟨u, q1, q2⟩ := L2.dat i d' e1
    exact ⟨u, q1, q2.unins j1 hne (noInsS_dat hns e1)⟩
  · obtain ⟨q1, q2, vs, q3, q4⟩ := L2.mt i q ds e1
    have nq : q ≠ x := fun z => by rw [z, j1] at q3; cases q3
    refine ⟨q1, ?_, vs, by rw [upd_ne nq]; exact q3, q4.unins j1 hne (noInsS_mut hns e1)⟩
    exact (I1.ok.mt i q ds e1).2.1
  · have na : a ≠ x := fun z => by rw [z, I.nf] at e1; cases e1
    rw [upd_ne na]
    exact I1.ok.fr a o e1
  · intro pp hpp
    obtain ⟨ps, t1, t2, t3⟩ := L2.tb pp hpp
    refine ⟨ps, by rw [upd_ne (ne_of t1 j1 (fun z => by cases z))]; exact t1, t2, fun pos cv hc => ?_⟩
    obtain ⟨c', u1, u2⟩ := t3 pos cv hc
    exact ⟨c', u1, by rw [upd_ne (ne_of u2 j1 (fun z => by unfold LamX.CodeO at z; cases z))]; exact u2⟩
  · have r1 := j2.unins j1 hne hnf
    have r2 := rv'.unins j1 hne hni
    have app : ∀ {a : List (Str × V)} {b : List (Str × D)}, RepF X.K (hid (UU O ρ) (upd H1 x (.ins C dx (putF f v fvs)))) a b → RepF X.K (hid (UU O ρ) (upd H1 x (.ins C dx (putF f v fvs)))) (a ++ [(f, v)]) (b ++ [(f, d)]) := fun {a b} r => by
      induction a generalizing b with
      | nil => cases r; exact .cons r2 .nil
      | cons y a ih => cases r with | cons h r => exact .cons h (ih r)
    exact app r1
end
end VL
end

section
set_option Elab.async false
set_option linter.all false
set_option maxRecDepth 100000
set_option maxHeartbeats 4000000
namespace VL
open PySem PySem.Spec PyProof.Rows L2
/-- __init__ that fills: from the data its fields -/
def spIni (K : PySem.W.Frag) (C : Addr) (A : List D → List (Str × D) → Prop) : Sp := fun vs H Q _ => ∃ O x dx ds fs F, ISt K F O x C dx [] ((D.adr x :: ds).map .dat) (vs.map some) H ∧ A ds fs ∧
  ∀ ρ' σ' H', ISt K F O x C dx fs ρ' σ' H' → Q .non H'
theorem fn_init {P : Program} {w : World} {K : PySem.W.Frag} {mg : Str → Option Value} {base : Heap} {k : Nat} {qual : Str} {st : Stmt} {f C : Addr} {fd : FuncData} {N ps : List Str} {A : List D → List (Str × D) → Prop} (Fu : Fun K "__init__" qual st f fd) (Sc : FnScope N ps (defScope st)) (hlen : ∀ ds fs, A ds fs → ds.length + 1 = ps.length)
    (hbody : ∀ (cdv : Value) (A' : Around) (outer : List Env) (s : Shared) (H : Hp) (E : XK), Room k (cx P w K mg base N qual st f cdv A' outer s H E).A → Bd (cx P w K mg base N qual st f cdv A' outer s H E) → ∀ x dx ds fs, A ds fs →
      CSI (cx P w K mg base N qual st f cdv A' outer s H E) x C dx [] ((D.adr x :: ds).map .dat ++ List.replicate (N.length - ps.length) .un) (defBody st) (fun fs' => fs' = fs)) : FnOk P w K mg base (L2N.CX P w) (k + 1) f fd ps (spIni K C A) := by
  refine Fun.okXN Fu Sc (fun vs H Q E h => ?_) (fun cdv A' outer s H vs Q E hr h => ⟨_, pss_tw, ?_⟩)
  · obtain ⟨O, x, dx, ds, fs, F, I, a, _⟩ := h
    have := I.ok.len
    rw [List.length_map, List.length_map, List.length_cons] at this
    rw [this]
    exact hlen ds fs a
  · obtain ⟨O, x, dx, ds, fs, F, I, a, po⟩ := h
    have hl : vs.length = ps.length := by
      have := I.ok.len
      rw [List.length_map, List.length_map, List.length_cons] at this
      rw [this]
      exact hlen ds fs a
    intro pins s1 Iv
    rw [start_eq hl] at Iv
    have ow : owns ((D.adr x :: ds).map .dat ++ List.replicate (N.length - ps.length) .un) = owns ((D.adr x :: ds).map .dat) := by
      funext a
      refine propext ⟨fun h => ?_, fun h => ?_⟩
      · obtain ⟨u, h⟩ := h
        rcases List.mem_append.mp h with h | h
        · exact ⟨u, h⟩
        · have := List.eq_of_mem_replicate h
          cases this
      · obtain ⟨u, h⟩ := h
        exact ⟨u, List.mem_append_left _ h⟩
    have I2 : ISt K F O x C dx [] ((D.adr x :: ds).map .dat ++ List.replicate (N.length - ps.length) .un) (vs.map some ++ List.replicate (N.length - ps.length) none) H := by
      obtain ⟨fvs, i1, i2⟩ := I.ins
      refine ⟨I.ok.more _, rfl, I.nf, I.no, fvs, i1, ?_⟩
      unfold UU
      rw [ow]
      exact i2
    exact hbody cdv A' outer s H E hr (bd_cx Sc.nd) x dx ds fs a F O _ H _ I2 (fun fs' ρ' σ' H' e J => by subst e; exact po ρ' σ' H' J) pins s1 Iv
section
variable {X : Cx} {e : Expr} {es : List Expr} {ρ ρ1 : Lo} {pos p : Pos} {ds : List D}
/-- C(e, ..) -/
theorem c_make {x0 : Str} {C f : Addr} {k : Nat} {fd : FuncData} {ps : List Str} {A : List D → List (Str × D) → Prop} {fs : List (Str × D)} (M : Mk X.K C f) (Fn : FnOk X.prog X.w X.K X.mg X.base (L2N.CX X.prog X.w) k f fd ps (spIni X.K C A)) (hr : Room (k + 1) X.A) (hm : X.mg x0 = some (.ref C)) (hb : L2.Binds X.K fd ps []) (ha : CD X ρ (e :: es) ds ρ1) (hA : A ds fs)
    (hg : Gl X x0 := by rfl) (hdb : (x0 == ("__debug__" : Str)) = false := by decide) (he : starEach (e :: es) X.env = (false, eval e X.env) :: starEach es X.env := by rfl) (hpl : (backTo pos (starEach es X.env)).any (·.1) = false := by rfl) :
    CE X ρ (.Call (.Name x0 p) (e :: es) [] pos) (.ins C fs) ρ1 := by
  refine .of (pe_make M Fn hr hg hm hb .nil passLN pa_tw hdb he hpl) ⟨ha.1, fun F O σ H Q I q => ha.2 F O σ H _ I fun vs H1 J r => ?_⟩
  intro x dx hx hdx hne
  rw [List.append_nil]
  -- the heap with the new instance
  have hxd : upd H1 dx (.own x) x = none := by rw [upd_ne (Ne.symm hne)]; exact hx
  have J1 := J.new (o := .own x) hdx
  have r1 : Reps X.K (hid (UU O ρ1) (upd H1 dx (.own x))) vs ds := r.mono (ex_new hdx)
  have J2 := J1.new (o := .ins C dx []) hxd
  have r2 : Reps X.K (hid (UU O ρ1) (upd (upd H1 dx (.own x)) x (.ins C dx []))) vs ds := r1.mono (ex_new hxd)
  have nx := J1.nU hxd
  have args := args_ok (K := X.K) (ds := .adr x :: ds) (.cons (.adr x) r2) J2.odU J2.tb
  let F2 : Hp := fun a => if a = x then none else VL.sup ((D.adr x :: ds).map .dat) (upd (upd H1 dx (.own x)) x (.ins C dx [])) a
  have F2x : F2 x = none := if_pos rfl
  have F2n : ∀ {a}, a ≠ x → F2 a = VL.sup ((D.adr x :: ds).map .dat) (upd (upd H1 dx (.own x)) x (.ins C dx [])) a := fun h => if_neg h
  have F2e : Ex F2 (VL.sup ((D.adr x :: ds).map .dat) (upd (upd H1 dx (.own x)) x (.ins C dx []))) := fun a o h => by
    have : a ≠ x := fun z => by rw [z, F2x] at h; cases h
    rw [F2n this] at h
    exact h
  have S2 := args.weak F2e (fun a oa => by
    obtain ⟨o, h⟩ := args.od a oa
    have : a ≠ x := fun z => by subst z; exact nx oa
    exact ⟨o, by rw [F2n this]; exact h⟩)
  refine ⟨UU O ρ1, x, dx, ds, fs, F2, ⟨S2, rfl, F2x, nx, [], upd_same, .nil⟩, hA, fun ρ' σ' H' L => ⟨rfl, ?_⟩⟩
  have exH : ExN H1 H' := fun a o t h => by
    have hax : a ≠ x := fun z => by rw [z, hx] at h; cases h
    have had : a ≠ dx := fun z => by rw [z, hdx] at h; cases h
    refine L.ok.fr a o ?_
    rw [F2n hax]
    exact hid_of owns_dats (by rw [upd_ne hax, upd_ne had]; exact h)
  obtain ⟨fvs, i1, i2⟩ := L.ins
  refine q (.ref x) H' (J.ext exH L.ok.tb) (.ins (dx := dx) (hid_of (fun z => nx z) i1) (i2.mono (ex_hid fun a o _ n h => ⟨fun z => n (.inl z), h⟩)))
end
end VL
end

section
set_option Elab.async false
set_option linter.all false
set_option maxRecDepth 100000
set_option maxHeartbeats 4000000
namespace VL
open PySem PySem.Spec PyProof.Rows L2
/-! ### sorted(xs) of a tuple of ints, or a list -/
section
variable {prog : Program} {w : World} {A : Around} {E : Value → Shared → Prop} {s : Shared}
theorem collect_tuple {l : Addr} {vs : List Value} {Q : List Value → Shared → Prop} (hl : s.heap.IsTuple l vs.toArray)
    (h : Q vs { s with heap := (s.heap.push (seqObj "list" #[] 0)).update s.heap.objs.size (Obj.mapSeq (· ++ vs.toArray)) }) (hsz : vs.length ≤ sizeLine := by size_fits) :
    wpAny (model prog w) A (collect (.ref l)) Q E s := by
  obtain ⟨o, ho, hc, n, hd⟩ := id hl
  unfold collect
  refine wpAny_bind (wpAny_runValue (codeAny_builtin entry_proto_collect' ?_))
  show wpAny _ _ (do again (.builtin "list.__iadd__" ⟨[← newList [], .ref l], []⟩)) _ _ s
  refine wpAny_bind (wpAny_newList (wpAny_pure ⟨Code.quiet_builtin _ (by decide +kernel), codeAny_builtin entry_list_iadd' ?_⟩))
  show wpAny _ _ (Builtin.List.listExtendWith (.ref s.heap.objs.size) (.ref l) (.ref s.heap.objs.size)) _ _ { s with heap := s.heap.push (seqObj "list" #[] 0) }
  unfold Builtin.List.listExtendWith
  have ho' : (s.heap.push (seqObj "list" #[] 0)).get? l = some o := Heap.get?_push_of_some _ ho
  refine wpAny_bind (wpAny_typeOf (T := "tuple") ⟨o, ho', hc⟩ ?_)
  have ht : (Value.type "tuple" == Value.type "tuple") = true := by rfl
  rw [if_pos (by rw [ht]; simp)]
  refine wpAny_bind (listItems_at ho' hd ?_)
  refine wpAny_bind (listItems_at (xs := #[]) (n := 0) (Heap.get?_push_size _ rfl) rfl ?_)
  rw [if_neg (by simp)]
  refine wpAny_bind (listUpdate_at (xs := #[]) (n := 0) (Heap.get?_push_size _ rfl) rfl ?_ (Nat.zero_le _) (by show (#[] ++ vs.toArray).size ≤ sizeLine + 1; simp only [Array.size_append, List.size_toArray, List.length_nil]; omega))
  refine wpAny_pure ?_
  show wpAny (model prog w) A (do
      let o ← load s.heap.objs.size
      match o.data with
      | .seq xs _ => pure xs.toList
      | _ => unsupported "internal:collect") Q E { s with heap := (s.heap.push (seqObj "list" #[] 0)).update s.heap.objs.size (Obj.mapSeq (· ++ vs.toArray)) }
  refine wpAny_bind (wpAny_load (get?_update_seq (Heap.get?_push_size _ rfl) _) ?_)
  show wpAny _ _ (pure ((#[] : Array Value) ++ vs.toArray).toList) Q E _
  rw [show ((#[] : Array Value) ++ vs.toArray).toList = vs by simp]
  exact wpAny_pure h
open SrtO in
theorem sorted_ordT {l : Addr} {vs : List Value} {ltv : Value → Value → Bool} {Q : Value → Shared → Prop} (O : Swo ltv) (hl : s.heap.IsTuple l vs.toArray) (hz : vs.length ≤ sizeLine)
    (hS : 2 ≤ vs.length → ∀ (h₁ : Heap) (a : Addr), h₁.get? a = some (seqObj "list" vs.toArray 0) → (∀ b o, s.heap.get? b = some o → b ≠ a ∧ h₁.get? b = some o) → SortableO prog w A.in1.in1 { s with heap := h₁ } a vs ltv)
    (h : ∀ out : List Value, Srtd ltv out → Stb ltv out vs → Q (.ref (s.heap.objs.size + 1)) { s with heap := sortedAll s.heap vs out.toArray }) :
    wpAny (model prog w) A (call (.builtin "sorted") [.ref l]) Q E s := by
  refine Calls.call_function_entry kind_sorted plain_sorted entry_sorted (args_sorted1 _) ?_
  unfold Builtin.«sorted»
  refine wpAny_bind (m := checkCount "sorted" 1 1 _) (wpAny_pure ?_)
  refine wpAny_bind (collect_tuple hl ?_ hz)
  refine wpAny_bind (wpAny_newList ?_ hz)
  have hsz : ((s.heap.push (seqObj "list" #[] 0)).update s.heap.objs.size (Obj.mapSeq (· ++ vs.toArray))).objs.size = s.heap.objs.size + 1 := by
    rw [Heap.size_update, size_push']
  have hoL : (((s.heap.push (seqObj "list" #[] 0)).update s.heap.objs.size (Obj.mapSeq (· ++ vs.toArray))).push (seqObj "list" vs.toArray 0)).get? (s.heap.objs.size + 1) = some (seqObj "list" vs.toArray 0) := by
    rw [← hsz]; exact Heap.get?_push_size _ rfl
  have keep : ∀ b o, s.heap.get? b = some o → b ≠ s.heap.objs.size + 1 ∧ (((s.heap.push (seqObj "list" #[] 0)).update s.heap.objs.size (Obj.mapSeq (· ++ vs.toArray))).push (seqObj "list" vs.toArray 0)).get? b = some o := fun b o q => by
    have hlt : b < s.heap.objs.size := Heap.lt_size q
    refine ⟨Nat.ne_of_lt (Nat.lt_succ_of_lt hlt), Heap.get?_push_of_some _ ?_⟩
    rw [Heap.get?_update_ne _ _ _ _ (Nat.ne_of_lt hlt)]
    exact Heap.get?_push_of_some _ q
  show wpAny _ _ _ _ _ { s with heap := ((s.heap.push (seqObj "list" #[] 0)).update s.heap.objs.size (Obj.mapSeq (· ++ vs.toArray))).push (seqObj "list" vs.toArray 0) }
  rw [hsz]
  refine wpAny_bind (wpAny_holding (wpAny_call_entry slot_list_sort ⟨_, hoL, rfl⟩ entry_list_sort (list_sort_ord O hoL hz (fun h2 => hS h2 _ _ hoL keep) fun out hs hb => ⟨_, rfl, ?_⟩) (args_list_sort _)))
  exact wpAny_pure ⟨_, rfl, h out hs hb⟩
end
/-- sorted(xs), a tuple of ints -/
def rSortedIT (K : PySem.W.Frag) : List V → Hp → VK → Prop := fun vs H Q => ∃ (a : Addr) (ns : List Int), vs = [V.ref a] ∧ SqT K H a (ns.map V.int) ∧
  ∀ (ns' : List Int) (p : Addr), ns'.Perm ns → ns'.Pairwise (· ≤ ·) → H p = none → Q (.ref p) (upd H p (.lst (ns'.map V.int)))
theorem cr_sortedIT {X : Cx} : CallR X (.builtin "sorted") (rSortedIT X.K) := by
  intro pins s σ H vs us Q I r h
  obtain ⟨a, ns, rfl, hs, q⟩ := h
  obtain ⟨its, rv, hl, hz⟩ := I.tuple hs
  rw [Vals.ref1 r]
  have hi := rv.ints
  refine sorted_ordT SrtO.swo_int hl (by rw [← rv.length]; exact hz) (fun h2 h₁ a' _ _ => SrtO.ints_sortable hi h2) fun out h1 h2 => ?_
  obtain ⟨k1, k2, k3⟩ := SrtO.ints_out hi h1 h2
  obtain ⟨ep, he'⟩ := PyProof.Rows.sortedAll_at s.heap its out.toArray
  have hlen : ((out.map SrtO.iv).map V.int).length ≤ sizeLine := by
    rw [List.length_map, k2.length_eq]
    rw [List.length_map] at hz
    exact hz
  exact ⟨.ref _, upd H (s.heap.objs.size + 1) (.lst ((out.map SrtO.iv).map V.int)), I.laid (t' := s.toks) (fun _ _ => PyProof.Rows.sortedAll_old) (Nat.le_succ _) ⟨hlen, out, ep, vals_of_ints k1, he'⟩, rfl, q _ _ k2 k3 (I.hok.fresh (Nat.le_succ _))⟩
/-- in order -/
def insI (x : Int) : List Int → List Int
  | [] => [x]
  | y :: ys => if x ≤ y then x :: y :: ys else y :: insI x ys
def sortI : List Int → List Int
  | [] => []
  | x :: xs => insI x (sortI xs)
theorem insI_perm (x : Int) : ∀ ys, (insI x ys).Perm (x :: ys)
  | [] => .refl _
  | y :: ys => by
    unfold insI
    split
    · exact .refl _
    · exact ((insI_perm x ys).cons y).trans (.swap x y ys)
theorem sortI_perm : ∀ xs, (sortI xs).Perm xs
  | [] => .refl _
  | x :: xs => (insI_perm x _).trans ((sortI_perm xs).cons x)
theorem insI_srt (x : Int) : ∀ ys : List Int, ys.Pairwise (· ≤ ·) → (insI x ys).Pairwise (· ≤ ·)
  | [], _ => List.pairwise_singleton _ _
  | y :: ys, h => by
    rw [List.pairwise_cons] at h
    unfold insI
    split
    · rename_i hx
      refine List.pairwise_cons.mpr ⟨fun z hz => ?_, List.pairwise_cons.mpr h⟩
      rcases List.mem_cons.mp hz with rfl | hz
      · exact hx
      · exact Int.le_trans hx (h.1 z hz)
    · rename_i hx
      refine List.pairwise_cons.mpr ⟨fun z hz => ?_, insI_srt x ys h.2⟩
      rcases List.mem_cons.mp ((insI_perm x ys).mem_iff.mp hz) with rfl | hz
      · omega
      · exact h.1 z hz
theorem sortI_srt : ∀ xs : List Int, (sortI xs).Pairwise (· ≤ ·)
  | [] => .nil
  | x :: xs => insI_srt x _ (sortI_srt xs)
theorem srt_uniq : ∀ {xs ys : List Int}, xs.Perm ys → xs.Pairwise (· ≤ ·) → ys.Pairwise (· ≤ ·) → xs = ys
  | [], ys, p, _, _ => (List.nil_perm.mp p).symm
  | x :: xs, [], p, _, _ => absurd p.length_eq (by simp)
  | x :: xs, y :: ys, p, h1, h2 => by
    rw [List.pairwise_cons] at h1 h2
    have e : x = y := by
      have a := p.mem_iff.mp (List.mem_cons_self (a := x) (l := xs))
      have b := p.mem_iff.mpr (List.mem_cons_self (a := y) (l := ys))
      have a' : y ≤ x := by rcases List.mem_cons.mp a with z | z; omega; exact h2.1 _ z
      have b' : x ≤ y := by rcases List.mem_cons.mp b with z | z; omega; exact h1.1 _ z
      omega
    subst e
    rw [srt_uniq ((List.perm_cons x).mp p) h1.2 h2.2]
theorem sortI_uniq {xs ys : List Int} (p : ys.Perm xs) (h : ys.Pairwise (· ≤ ·)) : ys = sortI xs := srt_uniq (p.trans (sortI_perm xs).symm) h (sortI_srt xs)
theorem sortI_len (xs : List Int) : (sortI xs).length = xs.length := (sortI_perm xs).length_eq
theorem sortI_mem {xs : List Int} {x : Int} : x ∈ sortI xs ↔ x ∈ xs := (sortI_perm xs).mem_iff
theorem sortI_id {xs : List Int} (h : xs.Pairwise (· ≤ ·)) : sortI xs = xs := (sortI_uniq (.refl _) h).symm
section
variable {X : Cx} {e a b c : Expr} {es : List Expr} {ρ ρ1 ρ2 ρ' : Lo} {pos p : Pos} {ds : List D} {d : D}
theorem n_sortT {ns : List Int} (hm : X.mg "sorted" = none) (ha : CE X ρ a (.tup (ns.map D.int)) ρ1) (hg : Gl X "sorted" := by rfl)
    (he : starEach [a] X.env = (false, eval a X.env) :: starEach [] X.env := by rfl) (hpl : (backTo pos (starEach [] X.env)).any (·.1) = false := by rfl) : CN X ρ (.Call (.Name "sorted" p) [a] [] pos) ((sortI ns).map D.int) ρ1 :=
  n_blt cr_sortedIT (fun F O ρ σ H vs Q I r q => by
    obtain ⟨v, rfl, ru⟩ := one_of r
    cases ru with
    | tup h1 s1 =>
      rw [s1.ints] at h1
      exact ⟨_, _, rfl, hid_ex.t h1, fun ns' pp hp hs hn => by rw [sortI_uniq hp hs]; exact q pp _ H I hn (Reps.ofInts _)⟩) hm (by decide +kernel) (d_cons ha d_nil he) hg (he := he) (hpl := hpl)
theorem n_sortL {ns : List Int} (hm : X.mg "sorted" = none) (ha : CE X ρ a (.lst (ns.map D.int)) ρ1) (hg : Gl X "sorted" := by rfl)
    (he : starEach [a] X.env = (false, eval a X.env) :: starEach [] X.env := by rfl) (hpl : (backTo pos (starEach [] X.env)).any (·.1) = false := by rfl) : CN X ρ (.Call (.Name "sorted" p) [a] [] pos) ((sortI ns).map D.int) ρ1 :=
  n_blt cr_sortedI (fun F O ρ σ H vs Q I r q => by
    obtain ⟨v, rfl, ru⟩ := one_of r
    cases ru with
    | lst h1 s1 =>
      rw [s1.ints] at h1
      exact ⟨_, _, rfl, .inl (.of (hid_ex _ _ h1)), fun ns' pp hp hs hn => by rw [sortI_uniq hp hs]; exact q pp _ H I hn (Reps.ofInts _)⟩) hm (by decide +kernel) (d_cons ha d_nil he) hg (he := he) (hpl := hpl)
end
end VL
end

section
set_option Elab.async false
set_option linter.all false
set_option maxRecDepth 100000
set_option maxHeartbeats 4000000
namespace VL
open C8 (InsC call_isC)
open PySem PySem.Spec PyProof.Rows L2
/-! ### isinstance of an own class; min, max; in -/
/-- an own class: what isinstance asks -/
structure OwnC (K : PySem.W.Frag) (C : Addr) : Prop where
  i : InsC K C
  no : ["NoneType", "bool", "int", "str", "tuple", "list", "dict"].all (fun n => PySem.W.kitOne K (.type n) (.ref C) == some false) = true
theorem OwnC.not {K : PySem.W.Frag} {C : Addr} (o : OwnC K C) {d : D} (h : plD d = true) : PySem.W.kitOne K (.type (tyD d)) (.ref C) = some false := by
  have := o.no
  simp only [List.all_cons, List.all_nil, Bool.and_true, Bool.and_eq_true, beq_iff_eq] at this
  obtain ⟨h1, h2, h3, h4, h5, h6, h7⟩ := this
  cases d <;> first | assumption | cases h
section
variable {X : Cx} {e a b c : Expr} {es : List Expr} {ρ ρ1 ρ2 ρ' : Lo} {pos p : Pos} {ds : List D} {d : D}
theorem c_isiY {C : Addr} {fs : List (Str × D)} (o : OwnC X.K C) (hm : X.mg "isinstance" = none) (ha : CE X ρ a (.ins C fs) ρ1) (hb : CE X ρ1 b (.adr C) ρ2) (hg : Gl X "isinstance" := by rfl)
    (hs : starEach [a, b] X.env = (false, eval a X.env) :: starEach [b] X.env := by rfl) (hpl : (backTo pos (starEach [b] X.env)).any (·.1) = false := by rfl)
    (he2 : starEach [b] X.env = (false, eval b X.env) :: starEach [] X.env := by rfl) : CE X ρ (.Call (.Name "isinstance" p) [a, b] [] pos) (.bl true) ρ2 :=
  c_blt (call_isC o.i) (fun F O ρ σ H vs Q I r q => by
    obtain ⟨v, w, rfl, r1, r2⟩ := two_of r
    cases r2
    cases r1 with
    | ins h1 rf => exact ⟨_, _, _, rfl, hid_ex _ _ h1, q _ _ I (.bl _)⟩) hm (by decide +kernel) (d_cons ha (d_cons hb d_nil he2) hs) hg (he := hs) (hpl := hpl)
theorem c_isiN {C : Addr} (o : OwnC X.K C) (hm : X.mg "isinstance" = none) (ha : CE X ρ a d ρ1) (hb : CE X ρ1 b (.adr C) ρ2) (hd : plD d = true) (hg : Gl X "isinstance" := by rfl)
    (hs : starEach [a, b] X.env = (false, eval a X.env) :: starEach [b] X.env := by rfl) (hpl : (backTo pos (starEach [b] X.env)).any (·.1) = false := by rfl)
    (he2 : starEach [b] X.env = (false, eval b X.env) :: starEach [] X.env := by rfl) : CE X ρ (.Call (.Name "isinstance" p) [a, b] [] pos) (.bl false) ρ2 :=
  c_blt call_isi (fun F O ρ σ H vs Q I r q => by
    obtain ⟨v, w, rfl, r1, r2⟩ := two_of r
    cases r2
    exact ⟨v, .ref C, _, _, _, rfl, .own C, (r1.mono hid_ex).tyx hd, o.not hd, q _ _ I (.bl _)⟩) hm (by decide +kernel) (d_cons ha (d_cons hb d_nil he2) hs) hg (he := hs) (hpl := hpl)
/-! ### max(i, j), min(i, j) -/
theorem c_max2 {i j : Int} (hc : X.calm = true) (hm : X.mg "max" = none) (ha : CE X ρ a (.int i) ρ1) (hb : CE X ρ1 b (.int j) ρ2) (hg : Gl X "max" := by rfl)
    (hs : starEach [a, b] X.env = (false, eval a X.env) :: starEach [b] X.env := by rfl) (hpl : (backTo pos (starEach [b] X.env)).any (·.1) = false := by rfl)
    (he2 : starEach [b] X.env = (false, eval b X.env) :: starEach [] X.env := by rfl) : CE X ρ (.Call (.Name "max" p) [a, b] [] pos) (.int (max i j)) ρ2 :=
  c_blt (call_max2 hc) (fun F O ρ σ H vs Q I r q => by
    obtain ⟨v, w, rfl, r1, r2⟩ := two_of r
    cases r1
    cases r2
    refine ⟨_, _, rfl, ?_⟩
    have : (if j > i then j else i) = max i j := by split <;> omega
    rw [this]
    exact q _ _ I (.int _)) hm (by decide +kernel) (d_cons ha (d_cons hb d_nil he2) hs) hg (he := hs) (hpl := hpl)
theorem c_min2 {i j : Int} (hc : X.calm = true) (hm : X.mg "min" = none) (ha : CE X ρ a (.int i) ρ1) (hb : CE X ρ1 b (.int j) ρ2) (hg : Gl X "min" := by rfl)
    (hs : starEach [a, b] X.env = (false, eval a X.env) :: starEach [b] X.env := by rfl) (hpl : (backTo pos (starEach [b] X.env)).any (·.1) = false := by rfl)
    (he2 : starEach [b] X.env = (false, eval b X.env) :: starEach [] X.env := by rfl) : CE X ρ (.Call (.Name "min" p) [a, b] [] pos) (.int (min i j)) ρ2 :=
  c_blt (call_min2 hc) (fun F O ρ σ H vs Q I r q => by
    obtain ⟨v, w, rfl, r1, r2⟩ := two_of r
    cases r1
    cases r2
    refine ⟨_, _, rfl, ?_⟩
    have : (if j < i then j else i) = min i j := by split <;> omega
    rw [this]
    exact q _ _ I (.int _)) hm (by decide +kernel) (d_cons ha (d_cons hb d_nil he2) hs) hg (he := hs) (hpl := hpl)
end
/-! ### min of a list, a tuple of ints -/
theorem min_tupInts {prog : Program} {w : World} {A : Around} {E : Value → Shared → Prop} {s : Shared} {t : Addr} {xs : Array (Int × Tok)} {Q : Value → Shared → Prop} (hh : A.handled = none) (ht : s.heap.IsTuple t (intItems xs)) (hne : 0 < xs.size)
    (h : ∀ v h' tk, (intItems xs)[argBest (fun i j => decide (numAt xs i < numAt xs j)) (xs.size - 1)]? = some v → (∀ b o, s.heap.get? b = some o → h'.get? b = some o) → Q v { s with heap := h', toks := tk }) :
    wpAny (model prog w) A (call (.builtin "min") [.ref t]) Q E s := by
  obtain ⟨o, ho, hc, n, hd⟩ := id ht
  have hne' : t ≠ s.heap.objs.size := Nat.ne_of_lt (Heap.lt_size ho)
  refine call_min_walk (wpAny_pyIter_tuple ht ?_)
  refine ⟨_, _, _, _, _, _, _, rfl, Walks.tuple (A := A.in1) hh s.heap.objs.size t hne' (intItems xs), ⟨⟨_, Heap.get?_push_size _ rfl, rfl, rfl⟩, ht.at fun o e => Heap.get?_push_of_some _ e⟩, fun b hb => ?_, by simpa [intItems] using hne, CmpOf.ints_lt (numAt xs) (fun _ _ => intItems_at), fun v h' tk hP hk => ?_⟩
  · rcases List.mem_cons.mp hb with rfl | hb
    · exact Heap.lt_size (Heap.get?_push_size _ rfl)
    · obtain rfl := List.mem_singleton.mp hb
      exact Heap.lt_size (Heap.get?_push_of_some _ ho)
  · refine h v h' tk (by simpa [intItems] using hP) fun b o e => hk b o (fun hm => ?_) (Heap.get?_push_of_some _ e)
    rcases List.mem_cons.mp hm with e1 | hm
    · exact absurd (e1 ▸ Heap.lt_size e) (Nat.lt_irrefl _)
    · cases hm
def rMinT (K : PySem.W.Frag) : List V → Hp → VK → Prop := fun vs H Q => ∃ (a : Addr) (ns : List Int), vs = [V.ref a] ∧ SqT K H a (ns.map V.int) ∧ 0 < ns.length ∧ ∀ m, m ∈ ns → (∀ y, y ∈ ns → m ≤ y) → Q (.int m) H
theorem cr_minT {X : Cx} (hc : X.calm = true) : CallR X (.builtin "min") (rMinT X.K) := by
  intro pins s σ H vs us Q I r h
  obtain ⟨a, ns, rfl, hs, hne, q⟩ := h
  obtain ⟨its, rv, hl, _⟩ := I.tuple hs
  rw [Vals.ref1 r]
  have hi := rv.ints
  obtain ⟨xs, ex⟩ := hi.allInts.items
  have hn : numsOf (intItems xs).toList = ns := by rw [← ex]; exact hi.numsOf
  rw [nums_intItems] at hn
  subst hn
  have hl' : s.heap.IsTuple a (intItems xs) := by rw [← ex]; exact hl
  have hsz : 0 < xs.size := by simpa using hne
  refine min_tupInts (I.ok.hd hc) hl' hsz fun v h' tk hv hk => ?_
  obtain ⟨t, rfl⟩ := intItems_at hv
  obtain ⟨h1, h2⟩ := argBest_lt (numAt xs) (xs.size - 1)
  refine ⟨.int _, H, I.kept hk, ⟨t, rfl⟩, q _ ?_ fun a ha => ?_⟩
  · rw [numAt_eq]; exact PySem.getD_mem (by rw [List.length_map, Array.length_toList]; omega)
  · obtain ⟨j, hj, rfl⟩ := mem_getD ha
    rw [List.length_map, Array.length_toList] at hj
    rw [← numAt_eq]; exact h2 j (by omega)
/-- the least -/
def minI (xs : List Int) : Int := - maxI (xs.map fun x => -x)
theorem minI_spec (xs : List Int) (h : xs ≠ []) : minI xs ∈ xs ∧ ∀ y ∈ xs, minI xs ≤ y := by
  obtain ⟨h1, h2⟩ := maxI_spec (xs.map fun x => -x) (by simpa using h)
  unfold minI
  refine ⟨?_, fun y hy => ?_⟩
  · obtain ⟨y, hy, e⟩ := List.mem_map.mp h1
    rw [← e, Int.neg_neg]
    exact hy
  · have := h2 (-y) (List.mem_map.mpr ⟨y, hy, rfl⟩)
    omega
theorem minI_uniq {xs : List Int} {m : Int} (h : m ∈ xs) (h2 : ∀ y ∈ xs, m ≤ y) : m = minI xs := by
  obtain ⟨a, b⟩ := minI_spec xs (fun e => by rw [e] at h; cases h)
  have := h2 _ a
  have := b _ h
  omega
section
variable {X : Cx} {e a b c : Expr} {es : List Expr} {ρ ρ1 ρ2 ρ' : Lo} {pos p : Pos} {ds : List D} {d : D}
theorem c_minT {ns : List Int} (hc : X.calm = true) (hm : X.mg "min" = none) (ha : CE X ρ a (.tup (ns.map D.int)) ρ1) (hne : 0 < ns.length) (hg : Gl X "min" := by rfl)
    (he : starEach [a] X.env = (false, eval a X.env) :: starEach [] X.env := by rfl) (hpl : (backTo pos (starEach [] X.env)).any (·.1) = false := by rfl) : CE X ρ (.Call (.Name "min" p) [a] [] pos) (.int (minI ns)) ρ1 :=
  c_blt (cr_minT hc) (fun F O ρ σ H vs Q I r q => by
    obtain ⟨v, rfl, ru⟩ := one_of r
    cases ru with
    | tup h1 s1 =>
      rw [s1.ints] at h1
      exact ⟨_, _, rfl, hid_ex.t h1, hne, fun m h2 h3 => by rw [minI_uniq h2 h3]; exact q _ _ I (.int _)⟩) hm (by decide +kernel) (d_cons ha d_nil he) hg (he := he) (hpl := hpl)
theorem c_minL {ns : List Int} (hc : X.calm = true) (hm : X.mg "min" = none) (ha : CE X ρ a (.lst (ns.map D.int)) ρ1) (hne : 0 < ns.length) (hg : Gl X "min" := by rfl)
    (he : starEach [a] X.env = (false, eval a X.env) :: starEach [] X.env := by rfl) (hpl : (backTo pos (starEach [] X.env)).any (·.1) = false := by rfl) : CE X ρ (.Call (.Name "min" p) [a] [] pos) (.int (minI ns)) ρ1 :=
  c_blt (cr_min hc) (fun F O ρ σ H vs Q I r q => by
    obtain ⟨v, rfl, ru⟩ := one_of r
    cases ru with
    | lst h1 s1 =>
      rw [s1.ints] at h1
      exact ⟨_, _, rfl, .of (hid_ex _ _ h1), hne, fun m h2 h3 => by rw [minI_uniq h2 h3]; exact q _ _ I (.int _)⟩) hm (by decide +kernel) (d_cons ha d_nil he) hg (he := he) (hpl := hpl)
/-- i in a tuple of ints -/
theorem inV_ints {i : Int} : ∀ {ns : List Int}, inV (.int i) (ns.map V.int) = ns.contains i
  | [] => rfl
  | n :: ns => by
    have := inV_ints (i := i) (ns := ns)
    unfold inV at this ⊢
    rw [List.map_cons, List.any_cons, this, List.contains_cons]
    congr 1
    show (n == i) = (i == n)
    exact BEq.comm
theorem flat_ints : ∀ ns : List Int, (ns.map V.int).all flatV = true
  | [] => rfl
  | n :: ns => by rw [List.map_cons, List.all_cons, flat_ints ns]; rfl
theorem t_inT {i : Int} {ns : List Int} (ha : CE X ρ a (.int i) ρ1) (hb : CE X ρ1 b (.tup (ns.map D.int)) ρ2) (hm : behindInMarks .In b = false := by rfl) : CT X ρ (.Compare a [.In] [b] pos) (ns.contains i) ρ2 :=
  t_cmp op_in_seq (fun F O ρ σ H v w Q I r1 r2 q => by
    cases r1
    cases r2 with
    | tup h1 s1 =>
      rw [s1.ints] at h1
      refine ⟨_, _, rfl, .inr (hid_ex.t h1), rfl, flat_ints _, ?_⟩
      rw [inV_ints]
      exact q _ _ I (.bl _)) ha hb hm
end
end VL
end

section
set_option Elab.async false
set_option linter.all false
set_option maxRecDepth 100000
set_option maxHeartbeats 4000000
namespace VL
open PySem PySem.Spec PyProof.Rows L2
/-! ### a, b = [..], [..]: two new lists -/
section
variable {X : Cx} {e a b c tg : Expr} {es : List Expr} {ρ ρ1 ρ2 ρ3 ρ' : Lo} {x y z d : D} {pos p p2 : Pos} {F F' : Hp} {O : Addr → Prop} {σ : L2.St} {H H' S T : Hp} {i j : Nat} {n m : Str} {ds es' : List D} {q : Addr} {K : PySem.W.Frag} {W : WE} {rest : List Stmt}
theorem after_newN {e : Expr} {vs : List V} {H1 : Hp} (J : SOk X.K F O ρ1 σ H1) (hp : H1 q = none) (r : Reps X.K (hid (UU O ρ1) H1) vs ds) (hb : CN X ρ1 b es' ρ2) {Q : V → Hp → Prop}
    (k : ∀ p ws H2, SOk X.K F O ρ2 σ (delH H2 q) → delH H2 q q = none → Reps X.K (hid (UU O ρ2) (delH H2 q)) vs ds → H2 p = none → Reps X.K (hid (UU O ρ2) (delH H2 q)) ws es' → H2 q = some (.lst vs) → Q (.ref p) (upd H2 p (.lst ws))) : tw X b σ (upd H1 q (.lst vs)) Q := by
  have J1 : SOk X.K (upd (VL.sup ρ1 H1) q (.lst vs)) (orA O q) ρ1 σ (upd H1 q (.lst vs)) := J.sup.orNew hp
  have nS : VL.sup ρ1 H1 q = none := by
    cases zz : VL.sup ρ1 H1 q with
    | none => rfl
    | some o =>
      have := hid_ex q o zz
      rw [hp] at this
      cases this
  refine hb.2 _ _ σ _ _ J1 fun p ws H2 L hp2 rw' => ?_
  obtain ⟨K1, K2⟩ := L.orDel nS J.sup.od
  have hq2 : H2 q = some (.lst vs) := L.fr q _ upd_same
  have rw2 : Reps X.K (hid (UU O ρ2) (delH H2 q)) ws es' := rw'.mono (ex_hid fun a u _ nn h => by
    have nq : a ≠ q := fun e => nn (.inl (.inr e))
    exact ⟨fun zz => nn (zz.elim (fun zz => .inl (.inl zz)) .inr), by rw [delH_ne nq]; exact h⟩)
  have ex : Ex (hid (UU O ρ1) H1) (hid (UU O ρ2) (delH H2 q)) := ex_hid fun a u _ nn h => ⟨fun zz => nn (by
    unfold UU at zz ⊢
    rw [← hb.1]
    exact zz), K1.fr a u (hid_of (fun zz => nn (.inr zz)) h)⟩
  exact k p ws H2 (K1.weak J.le_sup J.od) delH_same (r.mono ex) hp2 rw2 hq2
theorem css_par2N (i j : Nat) {px py pt pt2 : Pos} {kt k2} (B : Bd X) (ha : CN X ρ a ds ρ1) (hb : CN X ρ1 b es' ρ2) (k : ∀ q p, CSs X ((ρ2.set i (.mut q ds)).set j (.mut p es')) rest W) (hl : i < ρ2.length := by first | decide | simp) (hl2 : j < ρ2.length := by first | decide | simp) (hij : i ≠ j := by decide) (hi : X.N[i]? = some n := by rfl) (hj : X.N[j]? = some m := by rfl)
    (hx : X.env.scope.names.lookup n = some .local := by rfl) (hy : X.env.scope.names.lookup m = some .local := by rfl)
    (hw : swappedStores [.Tuple [.Name n px, .Name m py] kt pt] (.Tuple [a, b] k2 pt2) X.env = pure (some [n, m]) := by rfl)
    (hs : swapsWithSole [.Tuple [.Name n px, .Name m py] kt pt] (.Tuple [a, b] k2 pt2) pos.line X.env = pure false := by rfl)
    (he : starEach [a, b] X.env = (false, eval a X.env) :: starEach [b] X.env := by rfl) (he2 : starEach [b] X.env = (false, eval b X.env) :: starEach [] X.env := by rfl) : CSs X ρ (.Assign [.Tuple [.Name n px, .Name m py] kt pt] (.Tuple [a, b] k2 pt2) pos :: rest) W :=
  css_of (ps_par B.calm B.nd hi hj hij hx hy (pa_cons pe_tw (pa_cons pe_tw pa_nil he2) he) hw hs) fun F O σ H E I r => ha.2 F O σ H _ I fun q vs H1 J hp rv =>
    after_newN (e := a) J hp rv hb fun p ws H2 L hq rs hp2 rws hq2 => by
      refine ⟨.ref q, .ref p, rfl, r.nx _ _ _ (k q p) ?_⟩
      have M := L.own1 hq rs hl
      rw [upd_delH hq2] at M
      refine M.own1 hp2 (rws.mono (ex_hid fun a o _ nn h => ⟨fun zz => ?_, ?_⟩)) (by rw [List.length_set]; exact hl2)
      · rcases zz with zz | ⟨es, zz⟩
        · exact nn (.inl zz)
        · rcases List.mem_or_eq_of_mem_set zz with zz | zz
          · exact nn (.inr ⟨es, zz⟩)
          · cases zz
            rw [hq] at h
            cases h
      · have na : a ≠ q := fun e => by
          subst e
          rw [hq] at h
          cases h
        rw [delH_ne na] at h
        exact h
end
end VL
end

section
set_option Elab.async false
set_option linter.all false
set_option maxRecDepth 100000
set_option maxHeartbeats 4000000
namespace VL
open PySem PySem.Spec PyProof.Rows L2
/-! ### filling an instance: more statements -/
def noOwn : Lo → Bool
  | [] => true
  | .mut _ _ :: _ => false
  | _ :: r => noOwn r
theorem noOwn_owns : ∀ {ρ : Lo} (a : Addr), noOwn ρ = true → ¬ owns ρ a
  | [], a, _, ⟨es, h⟩ => by cases h
  | .un :: r, a, h, ⟨es, m⟩ => by
    rcases List.mem_cons.mp m with m | m
    · cases m
    · exact noOwn_owns (ρ := r) a h ⟨es, m⟩
  | .dat d :: r, a, h, ⟨es, m⟩ => by
    rcases List.mem_cons.mp m with m | m
    · cases m
    · exact noOwn_owns (ρ := r) a h ⟨es, m⟩
  | .mut _ _ :: r, a, h, _ => by cases h
theorem noOwn_eq {ρ ρ' : Lo} (h : noOwn ρ = true) (h' : noOwn ρ' = true) : owns ρ = owns ρ' := funext fun a => propext ⟨fun z => absurd z (noOwn_owns a h), fun z => absurd z (noOwn_owns a h')⟩
section
variable {X : Cx} {e a b c : Expr} {es : List Expr} {ρ ρ1 ρ2 ρ' : Lo} {pos p : Pos} {ds : List D} {d : D} {K : PySem.W.Frag} {F F' : Hp} {O : Addr → Prop} {σ σ' : L2.St} {H H' : Hp} {rest : List Stmt} {W : WE} {st : Stmt}
theorem cs_of {t : TS} (hp : PS X st t) (h : ∀ F O σ H E, SOk X.K F O ρ σ H → Real X F O W E → t E σ H) : CS X ρ st W := fun F O σ H E I r pins s J => hp.run pins s σ H E J (h F O σ H E I r)
theorem cs_expr (he : CE X ρ e d ρ1) (k : W.nx ρ1) (hs : swapsWith e none pos.line X.env = pure false := by rfl) : CS X ρ (.Expr e pos) W := cs_of (ps_expr pe_tw hs) fun F O σ H E I r => he.2 F O σ H _ I fun v H1 J _ => r.nx _ _ _ k J
/-- a call, whose value is let go -/
theorem csi_expr {x C dx : Addr} {fs : List (Str × D)} {R : List (Str × D) → Prop} {Wx : WX} (tk : L2N.Takes X Wx) (he : CE X ρ e d ρ) (h0 : ρ[0]? = some (.dat (.adr x))) (k : CSI X x C dx fs ρ rest R) (hs : swapsWith e none pos.line X.env = pure false := by rfl) : CSI X x C dx fs ρ (.Expr e pos :: rest) R :=
  csi_cs (P := fun ρ' => ρ' = ρ) tk (cs_expr he rfl hs) fun ρ' e => by subst e; exact ⟨rfl, h0, k⟩
/-- a, b = e; e may read the instance -/
theorem csi_tup {T : Tg} {tg : Expr} {x C dx : Addr} {fs : List (Str × D)} {R : List (Str × D) → Prop} (he : CE X (ρ.set 0 (.dat (.ins C fs))) e d (ρ.set 0 (.dat (.ins C fs)))) (hg : PG X tg (gOf X.K T)) (hb : Bind T d (ρ.set 0 (.dat (.ins C fs))) ρ2) (h0 : ρ[0]? = some (.dat (.adr x))) (h2 : ρ2[0]? = some (.dat (.ins C fs))) (hT : (0 : Nat) ∉ T.slots) (n1 : noOwn ρ = true) (n2 : noOwn ρ2 = true) (k : CSI X x C dx fs (ρ2.set 0 (.dat (.adr x))) rest R)
    (hs : swapsWithSole [tg] e pos.line X.env = pure false := by rfl) (hw : swappedStores [tg] e X.env = pure none := by rfl) (h1 : (assignEach [tg] X.env).map (·.2) = [assign tg X.env] := by rfl) : CSI X x C dx fs ρ (.Assign [tg] e pos :: rest) R := fun F O σ H D' I kk pins s J => by
  refine (pss_cons (ps_asg pe_tw hg hs hw h1) pss_tw).run pins s σ H D' J ?_
  have set0 : ∀ {ρ : Lo} {d : D}, noOwn ρ = true → noOwn (ρ.set 0 (.dat d)) = true := fun {ρ d} h => by
    cases ρ with
    | nil => rfl
    | cons y r => cases y <;> first | exact h | cases h
  have hsup : VL.sup (ρ.set 0 (.dat (.ins C fs))) H = VL.sup ρ H := by
    unfold VL.sup
    rw [noOwn_eq (set0 n1) n1]
  refine he.2 (VL.sup (ρ.set 0 (.dat (.ins C fs))) H) O σ H _ I.vis.sup fun v H1 L rv => hb.run L rv fun σ' M hk _ => ?_
  have at0 : σ'[0]? = some (some (.ref x)) := (hk 0 hT).trans I.at0
  have M2 := SOk.unvis (x := x) at0 M
  rw [hsup] at M2
  have hl : 0 < ρ2.length := (List.getElem?_eq_some_iff.mp h2).1
  exact k F O σ' H1 D' (I.keep M2 (noOwn_eq (set0 n2) n1) (by rw [List.getElem?_set_self hl])) kk
end
end VL
end

section
set_option Elab.async false
set_option linter.all false
set_option maxRecDepth 100000
set_option maxHeartbeats 4000000
namespace VL
open PySem PySem.Spec PyProof.Rows L2
open PySem.W
/-! ### data of any depth in order: <, min -/
def rLtDD (K : PySem.W.Frag) : R2 := fun x y H Q => ∃ d e, Dp K H x d ∧ Dp K H y e ∧ alike d e = true ∧ d ≠ .none ∧ d.depth ≤ 64 ∧ Q (.bl (dataLt d e)) H
theorem op_ltDD {X : Cx} (hu : X.A.units + 64 < cLine) : OpR X (compareOp .Lt) (rLtDD X.K) := by
  intro pins s σ H x y v u Q I rx ry h
  obtain ⟨d, e, hd, he, al, hn, hdp, q⟩ := h
  obtain ⟨as, r1⟩ := Dp.reads I d x v hd rx
  obtain ⟨bs, r2⟩ := Dp.reads I e y u he ry
  refine PySem.W.lt_data r1 r2 al hn ?_ ⟨.bl _, H, I, rfl, q⟩
  have := Nat.min_le_left d.depth e.depth
  omega
def rMinDD (K : PySem.W.Frag) : List V → Hp → VK → Prop := fun vs H Q => ∃ (a : Addr) (xs : List V) (ds : List PyData), vs = [V.ref a] ∧ SqL K H a xs ∧ DpAll K H xs ds ∧ AlikeAll ds ∧ PyData.depthAll ds ≤ 62 ∧ 0 < ds.length ∧
  ∀ v, xs[argBest (fun i j => dataLt (ds.getD i .none) (ds.getD j .none)) (ds.length - 1)]? = some v → Q v H
theorem Vals.at' {vs : List V} {us : List Value} (r : Vals vs us) : ∀ {i : Nat} {u : Value}, us[i]? = some u → ∃ v, vs[i]? = some v ∧ RelV v u := by
  induction r with
  | nil => intro i u h; simp at h
  | cons h r ih =>
    intro i u e
    cases i with
    | zero => rw [List.getElem?_cons_zero] at e; cases e; exact ⟨_, rfl, h⟩
    | succ i => rw [List.getElem?_cons_succ] at e ⊢; exact ih e
theorem cr_minDD {X : Cx} (hc : X.calm = true) (hu : X.A.units + 64 < cLine) : CallR X (.builtin "min") (rMinDD X.K) := by
  intro pins s σ H vs us Q I r h
  obtain ⟨a, xs, ds, rfl, hs, hd, al, hdp, hne, q⟩ := h
  obtain ⟨its, rv, hl, _⟩ := I.list hs
  rw [Vals.ref1 r]
  obtain ⟨as, hr⟩ := Dp.readsAll I ds xs its hd rv
  have hr' : ReadsAll s.heap its.toArray.toList ds as := hr
  have hn : its.toArray.size = ds.length := readsAll_len hr'
  refine call_min_walkH (iter_listW (A := X.A.in1) (I.ok.hd hc) hl.isList fun s₂ e W st hfp hw hk => ?_)
  refine ⟨_, _, _, _, _, _, _, s.heap, _, rfl, W, st, hfp, by omega, hw, hk, cmpIn_lt (A := X.A.in1) hr' al (by show X.A.units + 1 + _ < _; omega), fun v s' hP m => ?_⟩
  obtain ⟨h', tk, rfl, hk'⟩ := moved_old e rfl m
  have hP : its[argBest (fun i j => dataLt (ds.getD i .none) (ds.getD j .none)) (its.toArray.size - 1)]? = some v := by
    have : its.toArray[argBest (fun i j => dataLt (ds.getD i .none) (ds.getD j .none)) (its.toArray.size - 1)]? = some v := hP
    simpa using this
  rw [hn] at hP
  obtain ⟨x, hx, rx⟩ := Vals.at' rv hP
  exact ⟨x, H, I.kept hk', rx, q x hx⟩
/-- the first of the least -/
def bestD (ds : List D) : D := ds.getD (argBest (fun i j => dataLt (pyd (ds.getD i .non)) (pyd (ds.getD j .non))) (ds.length - 1)) .non
theorem pyds_len : ∀ ds : List D, (pyds ds).length = ds.length
  | [] => rfl
  | d :: ds => by show (pyds ds).length + 1 = _; rw [pyds_len ds, List.length_cons]
theorem pyds_get : ∀ (ds : List D) (i : Nat), (pyds ds).getD i .none = pyd (ds.getD i .non)
  | [], i => by rw [List.getD_eq_getElem?_getD, List.getD_eq_getElem?_getD]; rfl
  | d :: ds, 0 => rfl
  | d :: ds, i + 1 => pyds_get ds i
section
variable {X : Cx} {e a b c : Expr} {es : List Expr} {ρ ρ1 ρ2 ρ' : Lo} {pos p : Pos} {ds : List D} {d x y : D}
theorem t_ltD (hu : X.A.units + 64 < cLine) (ha : CE X ρ a x ρ1) (hb : CE X ρ1 b y ρ2) (hx : eqD x = true) (hy : eqD y = true) (al : alike (pyd x) (pyd y) = true) (hn : pyd x ≠ .none) (hd : (pyd x).depth ≤ 64) : CT X ρ (.Compare a [.Lt] [b] pos) (dataLt (pyd x) (pyd y)) ρ2 :=
  t_cmp (op_ltDD hu) (fun F O ρ σ H v w Q I r1 r2 q => ⟨_, _, Rep.dp _ _ hx (r1.mono hid_ex), Rep.dp _ _ hy (r2.mono hid_ex), al, hn, hd, q _ _ I (.bl _)⟩) ha hb (nomark _)
theorem c_minD (hc : X.calm = true) (hu : X.A.units + 64 < cLine) (hm : X.mg "min" = none) (ha : CE X ρ a (.lst ds) ρ1) (hx : eqDs ds = true) (al : AlikeAll (pyds ds)) (hd : PyData.depthAll (pyds ds) ≤ 62) (hne : 0 < ds.length) (hg : Gl X "min" := by rfl)
    (he : starEach [a] X.env = (false, eval a X.env) :: starEach [] X.env := by rfl) (hpl : (backTo pos (starEach [] X.env)).any (·.1) = false := by rfl) : CE X ρ (.Call (.Name "min" p) [a] [] pos) (bestD ds) ρ1 :=
  c_blt (cr_minDD hc hu) (fun F O ρ σ H vs Q I r q => by
    obtain ⟨v, rfl, ru⟩ := one_of r
    cases ru with
    | lst h1 s1 =>
      refine ⟨_, _, _, rfl, .inl (.of (hid_ex _ _ h1)), Reps.dp _ _ hx (s1.mono hid_ex), al, hd, by rw [pyds_len]; exact hne, fun u hu => ?_⟩
      have e : (fun i j => dataLt ((pyds ds).getD i .none) ((pyds ds).getD j .none)) = fun i j => dataLt (pyd (ds.getD i .non)) (pyd (ds.getD j .non)) := by
        funext i j
        rw [pyds_get, pyds_get]
      rw [e, pyds_len] at hu
      have hb : argBest (fun i j => dataLt (pyd (ds.getD i .non)) (pyd (ds.getD j .non))) (ds.length - 1) < ds.length := by
        have key : ∀ (f : Nat → Nat → Bool) k, argBest f k ≤ k := fun f k => by
          induction k with
          | zero => exact Nat.le_refl _
          | succ k ih =>
            unfold argBest
            split
            · exact Nat.le_refl _
            · omega
        have := key (fun i j => dataLt (pyd (ds.getD i .non)) (pyd (ds.getD j .non))) (ds.length - 1)
        omega
      obtain ⟨w, e1, rw'⟩ := s1.get (d := bestD ds) (by unfold bestD; rw [List.getD_eq_getElem?_getD, List.getElem?_eq_getElem hb]; rfl)
      rw [hu] at e1
      cases e1
      exact q _ _ I rw') hm (by decide +kernel) (d_cons ha d_nil he) hg (he := he) (hpl := hpl)
end
end VL
end

section
set_option Elab.async false
set_option linter.all false
set_option maxRecDepth 100000
set_option maxHeartbeats 4000000
namespace VL
open PySem PySem.Spec PyProof.Rows L2
/-! ### repr -/
/-- the text of a datum -/
abbrev reprD (d : D) : Str := (pyd d).shown
def rRepr (K : PySem.W.Frag) : List V → Hp → VK → Prop := fun vs H Q => ∃ v d, vs = [v] ∧ Dp K H v d ∧ d.showable = true ∧ d.hasDict = false ∧ d.depth ≤ 64 ∧ d.shown.length ≤ sizeLine ∧ Q (.str d.shown) H
theorem cr_repr {X : Cx} (hg : X.A.guards = some []) (hu : X.A.units + 70 < cLine) : CallR X (.builtin "repr") (rRepr X.K) := by
  intro pins s σ H vs us Q I r h
  obtain ⟨v, d, rfl, hd, hs, hn, hdp, hz, q⟩ := h
  obtain ⟨u, rfl, ru⟩ := r.one
  obtain ⟨as, rd⟩ := Dp.reads I d v u hd ru
  cases hd with
  | non =>
    cases ru
    exact P.repr_of_none ⟨.str _, H, I.tok _, ⟨_, rfl⟩, q⟩
  | bl b =>
    cases ru
    exact P.repr_of_bool ⟨.str _, H, I.tok _, ⟨_, by cases b <;> rfl⟩, q⟩
  | int i =>
    obtain ⟨t, rfl⟩ := ru
    exact P.repr_of_int (by simpa [PyData.showable] using hs) ⟨.str _, H, I.tok _, ⟨_, rfl⟩, q⟩
  | str x =>
    obtain ⟨t, rfl⟩ := ru
    exact P.repr_of_str (hsz := by simpa only [PyData.shown] using hz) ⟨.str _, H, I.tok _, ⟨_, rfl⟩, q⟩
  | lst h1 h2 =>
    cases ru
    exact repr_of_reads' rd hs (PyData.noDict_hsm hn) hg (by omega) (fun _ _ e => e) (fun h' u tk hk => ⟨.str _, H, I.kept hk, ⟨u, rfl⟩, q⟩) hz
  | tup h1 h2 =>
    cases ru
    exact repr_of_reads' rd hs (PyData.noDict_hsm hn) hg (by omega) (fun _ _ e => e) (fun h' u tk hk => ⟨.str _, H, I.kept hk, ⟨u, rfl⟩, q⟩) hz
mutual
theorem noDictD : ∀ d : D, eqD d = true → (pyd d).hasDict = false
  | .non, _ => rfl
  | .bl _, _ => rfl
  | .int _, _ => rfl
  | .str _, _ => rfl
  | .tup l, h => noDictDs l h
  | .lst l, h => noDictDs l h
theorem noDictDs : ∀ l : List D, eqDs l = true → PyData.hasDictAll (pyds l) = false
  | [], _ => rfl
  | d :: l, h => by
    unfold eqDs at h
    rw [Bool.and_eq_true] at h
    show (PyData.hasDict (pyd d) || PyData.hasDictAll (pyds l)) = false
    rw [noDictD d h.1, noDictDs l h.2]
    rfl
end
section
variable {X : Cx} {e a b c o : Expr} {es : List Expr} {ρ ρ1 ρ2 ρ' : Lo} {pos p apos cpos : Pos} {ds : List D} {d x y z : D} {name : Str}
theorem c_repr (hr : X.A.guards = some []) (hu : X.A.units + 70 < cLine) (hm : X.mg "repr" = none) (ha : CE X ρ a d ρ1) (hx : eqD d = true) (hs : (pyd d).showable = true) (hdp : (pyd d).depth ≤ 64) (hz : (reprD d).length ≤ sizeLine) (hg : Gl X "repr" := by rfl)
    (he : starEach [a] X.env = (false, eval a X.env) :: starEach [] X.env := by rfl) (hpl : (backTo pos (starEach [] X.env)).any (·.1) = false := by rfl) : CE X ρ (.Call (.Name "repr" p) [a] [] pos) (.str (reprD d)) ρ1 :=
  c_blt (cr_repr hr hu) (fun F O ρ σ H vs Q I r q => by
    obtain ⟨v, rfl, ru⟩ := one_of r
    exact ⟨v, pyd d, rfl, (Rep.dp d v hx (ru.mono hid_ex)), hs, noDictD d hx, hdp, hz, q _ _ I (.str _)⟩) hm (by decide +kernel) (d_cons ha d_nil he) hg (he := he) (hpl := hpl)
/-- of a tuple of ints -/
theorem sh_ints : ∀ {ns : List Int}, (∀ n ∈ ns, n.natAbs.log2 < 1920) → PyData.showableAll (pyds (ns.map D.int)) = true
  | [], _ => rfl
  | n :: ns, h => by
    show (PyData.showable (.int n) && PyData.showableAll (pyds (ns.map D.int))) = true
    rw [sh_ints fun m hm => h m (List.mem_cons_of_mem _ hm), Bool.and_true]
    show decide (n.natAbs.log2 < 1920) = true
    exact decide_eq_true (h n List.mem_cons_self)
theorem len_ints : ∀ {ns : List Int}, (∀ n ∈ ns, n.natAbs.log2 < 1920) → ((PyData.shownAll (pyds (ns.map D.int))).map (·.length)).sum ≤ 1921 * ns.length ∧ (PyData.shownAll (pyds (ns.map D.int))).length = ns.length
  | [], _ => ⟨Nat.le_refl _, rfl⟩
  | n :: ns, h => by
    obtain ⟨h1, h2⟩ := len_ints (ns := ns) fun m hm => h m (List.mem_cons_of_mem _ hm)
    have h3 := PyProof.Rows.int_text_len_1921 (h n List.mem_cons_self)
    refine ⟨?_, congrArg (· + 1) h2⟩
    show (Str.ofString (toString n)).length + ((PyData.shownAll (pyds (ns.map D.int))).map (·.length)).sum ≤ 1921 * (ns.length + 1)
    omega
theorem dep_ints : ∀ ns : List Int, PyData.depthAll (pyds (ns.map D.int)) = 0
  | [] => rfl
  | n :: ns => by
    show max 0 (PyData.depthAll (pyds (ns.map D.int))) = 0
    rw [dep_ints ns]
    rfl
theorem eqDs_ints : ∀ ns : List Int, eqDs (ns.map D.int) = true
  | [] => rfl
  | n :: ns => by
    show (eqD (.int n) && eqDs (ns.map D.int)) = true
    rw [eqDs_ints ns]
    rfl
theorem c_reprT {ns : List Int} (hr : X.A.guards = some []) (hu : X.A.units + 70 < cLine) (hm : X.mg "repr" = none) (ha : CE X ρ a (.tup (ns.map D.int)) ρ1) (hn : ∀ n ∈ ns, n.natAbs.log2 < 1920) (hl : ns.length ≤ 8000) (hg : Gl X "repr" := by rfl)
    (he : starEach [a] X.env = (false, eval a X.env) :: starEach [] X.env := by rfl) (hpl : (backTo pos (starEach [] X.env)).any (·.1) = false := by rfl) : CE X ρ (.Call (.Name "repr" p) [a] [] pos) (.str (reprD (.tup (ns.map D.int)))) ρ1 := by
  refine c_repr hr hu hm ha (eqDs_ints ns) (sh_ints hn) ?_ ?_ hg he hpl
  · show PyData.depthAll (pyds (ns.map D.int)) + 1 ≤ 64
    rw [dep_ints]; decide
  · have h := tupleText_len_le (PyData.shownAll (pyds (ns.map D.int)))
    obtain ⟨h1, h2⟩ := len_ints hn
    rw [h2] at h
    show (tupleText (PyData.shownAll (pyds (ns.map D.int)))).length ≤ sizeLine
    rw [sizeLine_eq]
    omega
theorem c_reprL {ns : List Int} (hr : X.A.guards = some []) (hu : X.A.units + 70 < cLine) (hm : X.mg "repr" = none) (ha : CE X ρ a (.lst (ns.map D.int)) ρ1) (hn : ∀ n ∈ ns, n.natAbs.log2 < 1920) (hl : ns.length ≤ 8000) (hg : Gl X "repr" := by rfl)
    (he : starEach [a] X.env = (false, eval a X.env) :: starEach [] X.env := by rfl) (hpl : (backTo pos (starEach [] X.env)).any (·.1) = false := by rfl) : CE X ρ (.Call (.Name "repr" p) [a] [] pos) (.str (reprD (.lst (ns.map D.int)))) ρ1 := by
  refine c_repr hr hu hm ha (eqDs_ints ns) (sh_ints hn) ?_ ?_ hg he hpl
  · show PyData.depthAll (pyds (ns.map D.int)) + 1 ≤ 64
    rw [dep_ints]; decide
  · have h := listText_len_le (PyData.shownAll (pyds (ns.map D.int)))
    obtain ⟨h1, h2⟩ := len_ints hn
    rw [h2] at h
    show (listText (PyData.shownAll (pyds (ns.map D.int)))).length ≤ sizeLine
    rw [sizeLine_eq]
    omega
theorem c_reprB {k : Bool} (hr : X.A.guards = some []) (hu : X.A.units + 70 < cLine) (hm : X.mg "repr" = none) (ha : CE X ρ a (.bl k) ρ1) (hg : Gl X "repr" := by rfl)
    (he : starEach [a] X.env = (false, eval a X.env) :: starEach [] X.env := by rfl) (hpl : (backTo pos (starEach [] X.env)).any (·.1) = false := by rfl) : CE X ρ (.Call (.Name "repr" p) [a] [] pos) (.str (reprD (.bl k))) ρ1 :=
  c_repr hr hu hm ha rfl rfl (Nat.zero_le _) (by cases k <;> decide) hg he hpl
theorem c_reprI {i : Int} (hr : X.A.guards = some []) (hu : X.A.units + 70 < cLine) (hm : X.mg "repr" = none) (ha : CE X ρ a (.int i) ρ1) (hi : i.natAbs.log2 < 1920) (hg : Gl X "repr" := by rfl)
    (he : starEach [a] X.env = (false, eval a X.env) :: starEach [] X.env := by rfl) (hpl : (backTo pos (starEach [] X.env)).any (·.1) = false := by rfl) : CE X ρ (.Call (.Name "repr" p) [a] [] pos) (.str (reprD (.int i))) ρ1 :=
  c_repr hr hu hm ha rfl (decide_eq_true hi) (Nat.zero_le _) (int_text_fits hi) hg he hpl
theorem t_neS {i j : Str} (ha : CE X ρ a (.str i) ρ1) (hb : CE X ρ1 b (.str j) ρ2) : CT X ρ (.Compare a [.NotEq] [b] pos) (!decide (i = j)) ρ2 := (t_cmp op_ne (opd_ne (fun _ _ r => rstr r) (fun _ _ r => rstr r) rfl) ha hb (nomark _)).eq (congrArg (fun z => !z) dStr)
/-- the same twice -/
theorem t_neS1 {i : Str} (ha : CE X ρ a (.str i) ρ1) (hb : CE X ρ1 b (.str i) ρ2) : CT X ρ (.Compare a [.NotEq] [b] pos) false ρ2 := (t_neS ha hb).eq (by rw [decide_eq_true rfl]; rfl)
end

/-! ### methods that hand back -/
section
variable {K : PySem.W.Frag} {H : Hp}
theorem ev_bm {r : V → List V → Hp → VK → Prop} {to : TE} {t : TA} {T : String} {x z : D} {ds : List D} {ρ ρ1 ρ2 : Lo} (h : EV K to ρ x ρ1) (ha : ED K t ρ1 ds ρ2) (hty : ∀ (O : Addr → Prop) (ρ : Lo) (H : Hp) v, Rep K (hid (UU O ρ) H) v x → tyV K T v H)
    (hd : ∀ F O σ H v vs (Q : VK), SOk K F O ρ2 σ H → Rep K (hid (UU O ρ2) H) v x → Reps K (hid (UU O ρ2) H) vs ds → (∀ u H', SOk K F O ρ2 σ H' → Rep K (hid (UU O ρ2) H') u z → Q u H') → r v vs H Q) : EV K (tBM K T r to t) ρ z ρ2 :=
  ⟨ha.1.trans h.1, fun F O σ H Q I q => h.2 F O σ H _ I fun v H1 J r1 => ⟨hty O ρ1 H1 v r1, ha.2 _ O σ H1 _ J.sup fun vs H2 L rs => hd F O σ H2 v vs Q (L.weak J.le_sup J.od) (SOk.keep ha.1 L r1) rs q⟩⟩
theorem tyV_l {O : Addr → Prop} {ρ : Lo} {ds : List D} {v : V} (r : Rep K (hid (UU O ρ) H) v (.lst ds)) : tyV K "list" v H := by
  cases r with
  | lst h1 _ => exact .inl ⟨rfl, _, .inl (.inl (of_hid h1).2)⟩
end
theorem count_bls {k : Bool} : ∀ {bs : List Bool} {us : List Value}, Vals (bs.map V.bl) us → us.countP (isBoolOf k) = bs.count k ∧ ∀ u ∈ us, ∃ b, u = .bool b
  | [], _, .nil => ⟨rfl, fun _ h => nomatch h⟩
  | b :: bs, _, .cons r t => by
    obtain ⟨h1, h2⟩ := count_bls (k := k) t
    cases r
    refine ⟨?_, fun u hu => ?_⟩
    · rw [List.countP_cons, List.count_cons, h1]
      rfl
    · rcases List.mem_cons.mp hu with rfl | hu
      · exact ⟨b, rfl⟩
      · exact h2 u hu
def rCntB (K : PySem.W.Frag) : V → List V → Hp → VK → Prop := fun x xs H Q => ∃ (p : Addr) (bs : List Bool) (k : Bool), x = .ref p ∧ xs = [.bl k] ∧ SqL K H p (bs.map V.bl) ∧ Q (.int (bs.count k : Nat)) H
theorem mt_countB {X : Cx} : MtR X "list.count" (rCntB X.K) := by
  intro pins s σ H x xs v us Q I rx rxs h
  obtain ⟨p, bs, k, rfl, rfl, hs, q⟩ := h
  cases rx
  obtain ⟨u, rfl, ru⟩ := rxs.one
  cases ru
  obtain ⟨its, rv, ⟨⟨cls, dd, data, sl⟩, n, ho, hc, hdn, hd⟩, hlen⟩ := I.list hs
  simp only at hc hd
  subst hc hd
  obtain ⟨h1, h2⟩ := count_bls (k := k) rv
  refine call_meets PySem.F.slot_list_count ⟨_, ho, rfl⟩ PySem.F.entry_list_count (PySem.F.args_list_count_2 _ _)
    (SeqAt.list_countAt p its.toArray n dd sl (.bool k) (isBoolOf k)) ⟨ho, fun y hy => ?_, ?_⟩
  · obtain ⟨b, rfl⟩ := h2 y (by simpa using hy)
    exact SeqAt.EqAt.bool_bool b k
  · refine ⟨.int (bs.count k : Nat), H, I.tok _, ⟨s.toks, ?_⟩, q⟩
    show Value.int ((its.toArray.toList.countP (isBoolOf k) : Nat) : Int) s.toks = Value.int ((bs.count k : Nat) : Int) s.toks
    rw [show its.toArray.toList = its from rfl, h1]
section
variable {X : Cx} {e a b c o : Expr} {es : List Expr} {ρ ρ1 ρ2 ρ' : Lo} {pos p apos cpos : Pos} {ds : List D} {d x y z : D} {name : Str}
theorem c_countB {bs : List Bool} {k : Bool} (ho : CE X ρ o (.lst (bs.map D.bl)) ρ1) (ha : CE X ρ1 e (.bl k) ρ2) (hbase : attributeBase o "count" X.env (eval o X.env) = eval o X.env := by rfl)
    (hfew : ((backTo cpos (starEach (e :: []) X.env)).all (fun x => !x.1) && (backToKw cpos (keywordEach [] X.env)).all (fun x => x.1.isSome)
      && decide ((e :: ([] : List Expr)).length + ([] : List Keyword).length + (if ([] : List Keyword).isEmpty then 0 else 1) < 30)) = true := by rfl)
    (hline : (apos.endLine == cpos.line) = true := by rfl) (hs : starEach (e :: []) X.env = (false, eval e X.env) :: starEach [] X.env := by rfl) (hplain : (backTo cpos (starEach [] X.env)).any (·.1) = false := by rfl) :
    CE X ρ (.Call (.Attribute o "count" apos) [e] [] cpos) (.int (bs.count k : Nat)) ρ2 :=
  .of (pe_bm PySem.F.plainAttrs_list PySem.F.slot_list_count PySem.F.type_list_count mt_countB pe_tw pa_tw hbase hfew hline hs hplain) (ev_bm ho (d_cons ha d_nil hs) (fun _ _ _ _ r => tyV_l r) fun F O σ H v vs Q I r1 rs q => by
    obtain ⟨u, rfl, ru⟩ := one_of rs
    cases ru
    cases r1 with
    | lst h1 s1 =>
      rw [s1.bls] at h1
      exact ⟨_, bs, k, rfl, rfl, .inl (.inl (of_hid h1).2), q _ _ I (.int _)⟩)
theorem c_indexB {bs : List Bool} {k : Bool} {j : Nat} (ho : CE X ρ o (.lst (bs.map D.bl)) ρ1) (ha : CE X ρ1 e (.bl k) ρ2) (hj : bs[j]? = some k) (hno : ∀ m, m < j → bs[m]? ≠ some k) (hbase : attributeBase o "index" X.env (eval o X.env) = eval o X.env := by rfl)
    (hfew : ((backTo cpos (starEach (e :: []) X.env)).all (fun x => !x.1) && (backToKw cpos (keywordEach [] X.env)).all (fun x => x.1.isSome)
      && decide ((e :: ([] : List Expr)).length + ([] : List Keyword).length + (if ([] : List Keyword).isEmpty then 0 else 1) < 30)) = true := by rfl)
    (hline : (apos.endLine == cpos.line) = true := by rfl) (hs : starEach (e :: []) X.env = (false, eval e X.env) :: starEach [] X.env := by rfl) (hplain : (backTo cpos (starEach [] X.env)).any (·.1) = false := by rfl) :
    CE X ρ (.Call (.Attribute o "index" apos) [e] [] cpos) (.int (j : Nat)) ρ2 :=
  .of (pe_bm PySem.F.plainAttrs_list PySem.F.slot_list_index PySem.F.type_list_index mt_index pe_tw pa_tw hbase hfew hline hs hplain) (ev_bm ho (d_cons ha d_nil hs) (fun _ _ _ _ r => tyV_l r) fun F O σ H v vs Q I r1 rs q => by
    obtain ⟨u, rfl, ru⟩ := one_of rs
    cases ru
    cases r1 with
    | lst h1 s1 =>
      rw [s1.bls] at h1
      have fl : ∀ l : List Bool, (l.map V.bl).all flatV = true := fun l => by
        rw [List.all_map]
        exact List.all_eq_true.mpr fun _ _ => rfl
      refine ⟨_, bs.map V.bl, .bl k, j, .bl k, rfl, rfl, .inl (.inl (of_hid h1).2), rfl, fl bs, by rw [List.getElem?_map, hj]; rfl, by cases k <;> rfl, fun m z' hm hz => ?_, q _ _ I (.int _)⟩
      rw [List.getElem?_map] at hz
      cases hb : bs[m]? with
      | none => rw [hb] at hz; cases hz
      | some b =>
        rw [hb] at hz
        cases hz
        have : b ≠ k := fun z => hno m hm (by rw [hb, z])
        cases b <;> cases k <;> first | rfl | exact absurd rfl this)
end
end VL
end

section
set_option Elab.async false
set_option linter.all false
set_option maxRecDepth 100000
set_option maxHeartbeats 4000000
namespace VLH
open PySem PySem.Spec PyProof.Rows L2 HotX VL LamX
/-- what the lambda does, and that it may turn what is told of by G -/
def TTm (K : PySem.W.Frag) (r0 : Res) (dW : VL.D) : (XK → Hp → VK → Prop) → Hp → VK → Prop := fun tl H Q => ∃ (F0 : Hp) (O : Addr → Prop) (G : Hp → Prop), SOk K F0 O [] [] H ∧
  (∀ E Q', (∀ F H', G F → SOk K F O [] [] H' → match r0 with
    | .ok d => ∀ v, Rep K (hid O H') v d → Q' v H'
    | .error e => ∀ cls dd, ErRep K (hid O H') cls dd e → E cls dd H') → tl E H Q') ∧
  ∀ F v H', G F → SOk K F O [] [] H' → Rep K (hid O H') v dW → Q v H'
theorem TTw.m {K : PySem.W.Frag} {r0 : Res} {dW : VL.D} {tl : XK → Hp → VK → Prop} {H : Hp} {Q : VK} (h : TTw K r0 dW tl H Q) : TTm K r0 dW tl H Q := by
  obtain ⟨F, O, I, h1, h2⟩ := h
  refine ⟨F, O, fun F' => F' = F, I, fun E Q' hh => h1 E Q' fun H' J => hh F H' rfl J, fun F' v H' e J rv => ?_⟩
  subst e
  exact h2 v H' J rv
theorem GivesToN.imp {X : Cx} {Ng : List Str} {x a q : Str} {sg : Scope} {g : Addr} {cdg : Value} {bg : List Stmt} {TT TT' : (XK → Hp → VK → Prop) → Hp → VK → Prop} (h : GivesToN X Ng x sg g cdg bg a q TT) (i : ∀ tl H Q, TT' tl H Q → TT tl H Q) : GivesToN X Ng x sg g cdg bg a q TT' :=
  fun f c' s H Q tl act hc ht hr => h f c' s H Q tl act hc (i _ _ _ ht) hr
/-- try: a() / except CS as n: suite; return ret -/
theorem word_givesm {X : Cx} {Ng : List Str} {x a e n q ret : Str} {sg : Scope} {g CS : Addr} {cdg : Value} {b₀ : Stmt} {suite : List Stmt} {iE : Nat} {r0 : Res} {dW : VL.D} {j : Nat} {p1 p2 p3 p4 p7 p8 p9 p10 : Pos}
    (hge : sg.names.lookup e = some .globalImplicit) (hme : X.mg e = some (.ref CS)) (hde : (e == ("__debug__" : Str)) = false) (h0 : ∀ f : Addr, (L2.start Ng [V.ref f])[0]? = some (some (V.ref f))) (hN : Ng.Nodup) (hi : Ng[iE]? = some n) (hln : sg.names.lookup n = some .cell)
    (hok : ∀ d, r0 = .ok d → dW = .str ret)
    (herr : ∀ er, r0 = .error er → PySem.W.exmOne X.K (.ref er.C) (.ref CS) = some true ∧ ∀ (s : Shared) (H : Hp) (aE : Addr) (oe : Obj) (dd : Option Addr) (pn : List (Addr × Obj)), L2N.Zn (.ref er.C) dd oe → (∃ vs, oe.data = .fields vs) → (dd = none → er.fs = []) →
      CSs ((cxOf C8.CX0 X.prog X.w X.K X.mg X.base Ng x sg g cdg X.A X.stack s H C8.E0).nox.suite aE ((aE, oe) :: pn)) ((List.replicate Ng.length Sl.un).set iE (.dat (exD aE dd er.fs))) (b₀ :: suite) { nx := fun _ => False, rt := fun d _ => d = dW }) :
    GivesToN X Ng x sg g cdg [.Try [.Expr (.Call (.Name a p1) [] [] p2) p3] [.ExceptHandler (some (.Name e p4)) (some n) (b₀ :: suite) p7] [] [] p8, .Return (some (.Constant (.str ret) j p9)) p10] a q (TTm X.K r0 dW) := by
  intro f c' s H Q tl act hc h hr
  obtain ⟨F0, O, G, I0, htl, hQ⟩ := h
  generalize hY : (cxOf C8.CX0 X.prog X.w X.K X.mg X.base Ng x sg g cdg X.A X.stack s H C8.E0).nox = Y
  have hgl : Gl Y e := by rw [← hY]; exact hge
  have hYK : Y.K = X.K := by rw [← hY]; rfl
  have hYN : Y.N = Ng := by rw [← hY]; rfl
  have eu : ∀ a, UU O (List.replicate Ng.length .un) a ↔ O a := fun a => ⟨fun z => z.elim id fun z => absurd z owns_rep, .inl⟩
  refine ⟨_, pss_cons (ps_try_asC (X := Y) (c := .ref CS) (i := iE) (Wout := fun _ _ _ _ => False)
      (tb := fun W D σ HZ => ∃ Ech : XK, (∀ cls d σ' H', Ech cls d H' → W cls d σ' H') ∧ σ[0]? = some (some (.ref f)) ∧ HZ c' = some (CodeO c' q) ∧ tl Ech HZ fun _ H' => D.nx σ H')
      (ts := fun aE cls dd D σ H => ∀ oe pn, L2N.Zn cls dd oe → (∃ vs, oe.data = .fields vs) → twss (Y.suite aE ((aE, oe) :: pn)) (b₀ :: suite) D σ H)
      (by rw [← hY]; rfl) (by rw [← hY]; rfl) (by rw [hYN]; exact hN) (by rw [hYN]; exact hi) (by rw [← hY]; exact hln) (by rw [← hY]; rfl) ⟨hgl, hde, .inl (by rw [← hY]; exact hme)⟩ (fun _ _ x => by
        obtain ⟨_, _, _, _, _, _, _, _, _, _, _, _, _, _, _, _, z⟩ := x
        exact z.elim)
      (fun W pn xe tk _ => ?_) (fun aE oe cls dd pn hz hf => ⟨fun pins s σ H D I h => h oe pn hz hf pins s I⟩)) (pss_one (ps_ret (pe_str (x := ret)))), ?_⟩
  · refine pss_one ⟨fun pins s' σ H' D I h' => ?_⟩
    obtain ⟨Ech, hW, h1, h2, h3⟩ := h'
    subst hY
    have hp := act W pn xe Ech p1 p2 tk hW
    exact (ps_expr (pos := p3) hp).run pins s' σ H' D I ⟨h1, h2, h3⟩
  · refine ⟨fun cls dd H' => ∃ (er : Er) (F : Hp), r0 = .error er ∧ G F ∧ SOk X.K F O [] [] H' ∧ ErRep X.K (hid O H') cls dd er, fun cls dd σ' H' ⟨er, F, e1, gF, J, re⟩ => ?_, h0 f, hc, htl _ _ fun F H' gF J => ?_⟩
    · obtain ⟨hx, hsu⟩ := herr er e1
      have ec : cls = .ref er.C := re.1
      subst ec
      refine ⟨true, by rw [hYK]; exact hx, fun _ aE na oe pn hz hf pins s2 I2 => ?_, fun z => Bool.noConfusion z⟩
      have hlen : (σ'.set iE (some (.ref aE))).length = Ng.length := by
        have := I2.len
        rw [this]
        show Y.N.length = _
        rw [hYN]
      have hdd : dd = none → er.fs = [] := fun z => by
        obtain ⟨_, ⟨z1, z2⟩ | ⟨d1, f1, z1, z2, z3⟩⟩ := re
        · exact z1
        · rw [z] at z1; cases z1
      have hsl : σ'.length = Ng.length := by rw [List.length_set] at hlen; exact hlen
      have S0 : SOk X.K F O (List.replicate Ng.length .un) σ' H' := sokU J hsl
      have S1 := S0.set (i := iE) (v := .ref aE) (d := exD aE dd er.fs) (by
        rw [hid_congr eu]
        exact rep_exD (C := er.C) (cls := .ref er.C) re)
      subst hY
      refine hsu s H aE oe dd pn hz hf hdd F O _ H' _ S1 ⟨fun _ _ _ z _ => z.elim, fun d ρ' σ2 H2 v hd J2 rv => ?_, fun _ _ _ z _ => z.elim, fun _ _ _ z _ => z.elim, fun _ _ _ _ => False, fun _ _ x => ?_, fun _ _ _ _ _ _ z => z.elim⟩ pins s2 I2
      · subst hd
        exact hQ F v H2 gF (sok0 J2.fr J2.od J2.tb J2.ft) (rv.mono (ex_hid fun a o _ n h => ⟨fun z => n (.inl z), h⟩))
      · obtain ⟨_, _, _, _, _, _, _, _, _, _, _, _, _, _, _, _, z⟩ := x
        exact z.elim
    · cases r0 with
      | ok d =>
        have e1 := hok d rfl
        subst e1
        exact fun v rv => hQ F _ _ gF J (.str ret)
      | error er => exact fun cls dd re => ⟨er, F, rfl, gF, J, re⟩
/-- try: a() / except CS as n: suite; return ret; n a plain name -/
theorem word_givesLm {X : Cx} {Ng : List Str} {x a e n q ret : Str} {sg : Scope} {g CS : Addr} {cdg : Value} {b₀ : Stmt} {suite : List Stmt} {iE : Nat} {r0 : Res} {dW : VL.D} {j : Nat} {p1 p2 p3 p4 p7 p8 p9 p10 : Pos}
    (hge : sg.names.lookup e = some .globalImplicit) (hme : X.mg e = some (.ref CS)) (hde : (e == ("__debug__" : Str)) = false) (h0 : ∀ f : Addr, (L2.start Ng [V.ref f])[0]? = some (some (V.ref f))) (hN : Ng.Nodup) (hi : Ng[iE]? = some n) (hln : sg.names.lookup n = some .local)
    (hok : ∀ d, r0 = .ok d → dW = .str ret)
    (herr : ∀ er, r0 = .error er → PySem.W.exmOne X.K (.ref er.C) (.ref CS) = some true ∧ ∀ (s : Shared) (H : Hp) (aE : Addr) (oe : Obj) (dd : Option Addr) (pn : List (Addr × Obj)), L2N.Zn (.ref er.C) dd oe → (∃ vs, oe.data = .fields vs) → (dd = none → er.fs = []) →
      CSs ((cxOf C8.CX0 X.prog X.w X.K X.mg X.base Ng x sg g cdg X.A X.stack s H C8.E0).nox.suite aE ((aE, oe) :: pn)) ((List.replicate Ng.length Sl.un).set iE (.dat (exD aE dd er.fs))) (b₀ :: suite) { nx := fun _ => False, rt := fun d _ => d = dW }) :
    GivesToN X Ng x sg g cdg [.Try [.Expr (.Call (.Name a p1) [] [] p2) p3] [.ExceptHandler (some (.Name e p4)) (some n) (b₀ :: suite) p7] [] [] p8, .Return (some (.Constant (.str ret) j p9)) p10] a q (TTm X.K r0 dW) := by
  intro f c' s H Q tl act hc h hr
  obtain ⟨F0, O, G, I0, htl, hQ⟩ := h
  generalize hY : (cxOf C8.CX0 X.prog X.w X.K X.mg X.base Ng x sg g cdg X.A X.stack s H C8.E0).nox = Y
  have hgl : Gl Y e := by rw [← hY]; exact hge
  have hYK : Y.K = X.K := by rw [← hY]; rfl
  have hYN : Y.N = Ng := by rw [← hY]; rfl
  have eu : ∀ a, UU O (List.replicate Ng.length .un) a ↔ O a := fun a => ⟨fun z => z.elim id fun z => absurd z owns_rep, .inl⟩
  refine ⟨_, pss_cons (L2N.ps_try_as (X := Y) (c := .ref CS) (i := iE) (Wout := fun _ _ _ _ => False)
      (tb := fun W D σ HZ => ∃ Ech : XK, (∀ cls d σ' H', Ech cls d H' → W cls d σ' H') ∧ σ[0]? = some (some (.ref f)) ∧ HZ c' = some (CodeO c' q) ∧ tl Ech HZ fun _ H' => D.nx σ H')
      (ts := fun aE cls dd D σ H => ∀ oe pn, L2N.Zn cls dd oe → (∃ vs, oe.data = .fields vs) → twss (Y.suite aE ((aE, oe) :: pn)) (b₀ :: suite) D σ H)
      (by rw [← hY]; rfl) (by rw [← hY]; rfl) (by rw [hYN]; exact hN) (by rw [hYN]; exact hi) (by rw [← hY]; exact hln) ⟨hgl, hde, .inl (by rw [← hY]; exact hme)⟩ (fun _ _ x => by
        obtain ⟨_, _, _, _, _, _, _, _, _, _, _, _, _, _, _, _, z⟩ := x
        exact z.elim)
      (fun W pn xe tk _ => ?_) (fun aE oe cls dd pn hz hf => ⟨fun pins s σ H D I h => h oe pn hz hf pins s I⟩)) (pss_one (ps_ret (pe_str (x := ret)))), ?_⟩
  · refine pss_one ⟨fun pins s' σ H' D I h' => ?_⟩
    obtain ⟨Ech, hW, h1, h2, h3⟩ := h'
    subst hY
    have hp := act W pn xe Ech p1 p2 tk hW
    exact (ps_expr (pos := p3) hp).run pins s' σ H' D I ⟨h1, h2, h3⟩
  · refine ⟨fun cls dd H' => ∃ (er : Er) (F : Hp), r0 = .error er ∧ G F ∧ SOk X.K F O [] [] H' ∧ ErRep X.K (hid O H') cls dd er, fun cls dd σ' H' ⟨er, F, e1, gF, J, re⟩ => ?_, h0 f, hc, htl _ _ fun F H' gF J => ?_⟩
    · obtain ⟨hx, hsu⟩ := herr er e1
      have ec : cls = .ref er.C := re.1
      subst ec
      refine ⟨true, by rw [hYK]; exact hx, fun _ aE na oe pn hz hf pins s2 I2 => ?_, fun z => Bool.noConfusion z⟩
      have hlen : (σ'.set iE (some (.ref aE))).length = Ng.length := by
        have := I2.len
        rw [this]
        show Y.N.length = _
        rw [hYN]
      have hdd : dd = none → er.fs = [] := fun z => by
        obtain ⟨_, ⟨z1, z2⟩ | ⟨d1, f1, z1, z2, z3⟩⟩ := re
        · exact z1
        · rw [z] at z1; cases z1
      have hsl : σ'.length = Ng.length := by rw [List.length_set] at hlen; exact hlen
      have S0 : SOk X.K F O (List.replicate Ng.length .un) σ' H' := sokU J hsl
      have S1 := S0.set (i := iE) (v := .ref aE) (d := exD aE dd er.fs) (by
        rw [hid_congr eu]
        exact rep_exD (C := er.C) (cls := .ref er.C) re)
      subst hY
      refine hsu s H aE oe dd pn hz hf hdd F O _ H' _ S1 ⟨fun _ _ _ z _ => z.elim, fun d ρ' σ2 H2 v hd J2 rv => ?_, fun _ _ _ z _ => z.elim, fun _ _ _ z _ => z.elim, fun _ _ _ _ => False, fun _ _ x => ?_, fun _ _ _ _ _ _ z => z.elim⟩ pins s2 I2
      · subst hd
        exact hQ F v H2 gF (sok0 J2.fr J2.od J2.tb J2.ft) (rv.mono (ex_hid fun a o _ n h => ⟨fun z => n (.inl z), h⟩))
      · obtain ⟨_, _, _, _, _, _, _, _, _, _, _, _, _, _, _, _, z⟩ := x
        exact z.elim
    · cases r0 with
      | ok d =>
        have e1 := hok d rfl
        subst e1
        exact fun v rv => hQ F _ _ gF J (.str ret)
      | error er => exact fun cls dd re => ⟨er, F, rfl, gF, J, re⟩
/-- try: a() / except CS as n: suite; return ret; n a plain name -/
theorem word_givesL {X : Cx} {Ng : List Str} {x a e n q ret : Str} {sg : Scope} {g CS : Addr} {cdg : Value} {b₀ : Stmt} {suite : List Stmt} {iE : Nat} {r0 : Res} {dW : VL.D} {j : Nat} {p1 p2 p3 p4 p7 p8 p9 p10 : Pos}
    (hge : sg.names.lookup e = some .globalImplicit) (hme : X.mg e = some (.ref CS)) (hde : (e == ("__debug__" : Str)) = false) (h0 : ∀ f : Addr, (L2.start Ng [V.ref f])[0]? = some (some (V.ref f))) (hN : Ng.Nodup) (hi : Ng[iE]? = some n) (hln : sg.names.lookup n = some .local)
    (hok : ∀ d, r0 = .ok d → dW = .str ret)
    (herr : ∀ er, r0 = .error er → PySem.W.exmOne X.K (.ref er.C) (.ref CS) = some true ∧ ∀ (s : Shared) (H : Hp) (aE : Addr) (oe : Obj) (dd : Option Addr) (pn : List (Addr × Obj)), L2N.Zn (.ref er.C) dd oe → (∃ vs, oe.data = .fields vs) → (dd = none → er.fs = []) →
      CSs ((cxOf C8.CX0 X.prog X.w X.K X.mg X.base Ng x sg g cdg X.A X.stack s H C8.E0).nox.suite aE ((aE, oe) :: pn)) ((List.replicate Ng.length Sl.un).set iE (.dat (exD aE dd er.fs))) (b₀ :: suite) { nx := fun _ => False, rt := fun d _ => d = dW }) :
    GivesToN X Ng x sg g cdg [.Try [.Expr (.Call (.Name a p1) [] [] p2) p3] [.ExceptHandler (some (.Name e p4)) (some n) (b₀ :: suite) p7] [] [] p8, .Return (some (.Constant (.str ret) j p9)) p10] a q (TTw X.K r0 dW) :=
  GivesToN.imp (word_givesLm (ret := ret) (iE := iE) (CS := CS) hge hme hde h0 hN hi hln hok herr) fun _ _ _ h => h.m
/-- try: a() / except CS as n: suite, where the try hands back (ret, a()) -/
theorem word_givesRm {X : Cx} {Ng : List Str} {x a e n q ret : Str} {sg : Scope} {g CS : Addr} {cdg : Value} {b₀ : Stmt} {suite : List Stmt} {iE : Nat} {r0 : Res} {dW : VL.D} {kt} {j} {p1 p2 p3 p4 p7 p8 p9 p11 : Pos}
    (hge : sg.names.lookup e = some .globalImplicit) (hme : X.mg e = some (.ref CS)) (hde : (e == ("__debug__" : Str)) = false) (h0 : ∀ f : Addr, (L2.start Ng [V.ref f])[0]? = some (some (V.ref f))) (hN : Ng.Nodup) (hi : Ng[iE]? = some n) (hln : sg.names.lookup n = some .local)
    (hok : ∀ d, r0 = .ok d → dW = .tup [.str ret, d])
    (herr : ∀ er, r0 = .error er → PySem.W.exmOne X.K (.ref er.C) (.ref CS) = some true ∧ ∀ (s : Shared) (H : Hp) (aE : Addr) (oe : Obj) (dd : Option Addr) (pn : List (Addr × Obj)), L2N.Zn (.ref er.C) dd oe → (∃ vs, oe.data = .fields vs) → (dd = none → er.fs = []) →
      CSs ((cxOf C8.CX0 X.prog X.w X.K X.mg X.base Ng x sg g cdg X.A X.stack s H C8.E0).nox.suite aE ((aE, oe) :: pn)) ((List.replicate Ng.length Sl.un).set iE (.dat (exD aE dd er.fs))) (b₀ :: suite) { nx := fun _ => False, rt := fun d _ => d = dW }) :
    GivesToN X Ng x sg g cdg [.Try [.Return (some (.Tuple [.Constant (.str ret) j p9, .Call (.Name a p1) [] [] p2] kt p11)) p3] [.ExceptHandler (some (.Name e p4)) (some n) (b₀ :: suite) p7] [] [] p8] a q (TTm X.K r0 dW) := by
  intro f c' s H Q tl act hc h hr
  obtain ⟨F0, O, G, I0, htl, hQ⟩ := h
  generalize hY : (cxOf C8.CX0 X.prog X.w X.K X.mg X.base Ng x sg g cdg X.A X.stack s H C8.E0).nox = Y
  have hgl : Gl Y e := by rw [← hY]; exact hge
  have hYK : Y.K = X.K := by rw [← hY]; rfl
  have hYN : Y.N = Ng := by rw [← hY]; rfl
  have eu : ∀ a, UU O (List.replicate Ng.length .un) a ↔ O a := fun a => ⟨fun z => z.elim id fun z => absurd z owns_rep, .inl⟩
  refine ⟨_, pss_one (L2N.ps_try_as (X := Y) (c := .ref CS) (i := iE) (Wout := fun _ _ _ _ => False)
      (tb := fun W D σ HZ => ∃ Ech : XK, (∀ cls d σ' H', Ech cls d H' → W cls d σ' H') ∧ σ[0]? = some (some (.ref f)) ∧ HZ c' = some (CodeO c' q) ∧ tl Ech HZ fun v H1 => ([V.str ret, v] : List V).length ≤ sizeLine ∧ ∀ p, H1 p = none → D.rt (.ref p) (upd H1 p (.tup [V.str ret, v])))
      (ts := fun aE cls dd D σ H => ∀ oe pn, L2N.Zn cls dd oe → (∃ vs, oe.data = .fields vs) → twss (Y.suite aE ((aE, oe) :: pn)) (b₀ :: suite) D σ H)
      (by rw [← hY]; rfl) (by rw [← hY]; rfl) (by rw [hYN]; exact hN) (by rw [hYN]; exact hi) (by rw [← hY]; exact hln) ⟨hgl, hde, .inl (by rw [← hY]; exact hme)⟩ (fun _ _ x => by
        obtain ⟨_, _, _, _, _, _, _, _, _, _, _, _, _, _, _, _, z⟩ := x
        exact z.elim)
      (fun W pn xe tk _ => ?_) (fun aE oe cls dd pn hz hf => ⟨fun pins s σ H D I h => h oe pn hz hf pins s I⟩)), ?_⟩
  · refine pss_one ⟨fun pins s' σ H' D I h' => ?_⟩
    obtain ⟨Ech, hW, h1, h2, h3⟩ := h'
    subst hY
    have hp := act W pn xe Ech p1 p2 tk hW
    exact (ps_ret (pos := p3) (pe_tup (x1 := kt) (pos := p11) (pa_cons (pe_str (x := ret) (j := j) (pos := p9)) (pa_cons hp pa_nil)))).run pins s' σ H' D I ⟨h1, h2, h3⟩
  · refine ⟨fun cls dd H' => ∃ (er : Er) (F : Hp), r0 = .error er ∧ G F ∧ SOk X.K F O [] [] H' ∧ ErRep X.K (hid O H') cls dd er, fun cls dd σ' H' ⟨er, F, e1, gF, J, re⟩ => ?_, h0 f, hc, htl _ _ fun F H' gF J => ?_⟩
    · obtain ⟨hx, hsu⟩ := herr er e1
      have ec : cls = .ref er.C := re.1
      subst ec
      refine ⟨true, by rw [hYK]; exact hx, fun _ aE na oe pn hz hf pins s2 I2 => ?_, fun z => Bool.noConfusion z⟩
      have hlen : (σ'.set iE (some (.ref aE))).length = Ng.length := by
        have := I2.len
        rw [this]
        show Y.N.length = _
        rw [hYN]
      have hdd : dd = none → er.fs = [] := fun z => by
        obtain ⟨_, ⟨z1, z2⟩ | ⟨d1, f1, z1, z2, z3⟩⟩ := re
        · exact z1
        · rw [z] at z1; cases z1
      have hsl : σ'.length = Ng.length := by rw [List.length_set] at hlen; exact hlen
      have S0 : SOk X.K F O (List.replicate Ng.length .un) σ' H' := sokU J hsl
      have S1 := S0.set (i := iE) (v := .ref aE) (d := exD aE dd er.fs) (by
        rw [hid_congr eu]
        exact rep_exD (C := er.C) (cls := .ref er.C) re)
      subst hY
      refine hsu s H aE oe dd pn hz hf hdd F O _ H' _ S1 ⟨fun _ _ _ z _ => z.elim, fun d ρ' σ2 H2 v hd J2 rv => ?_, fun _ _ _ z _ => z.elim, fun _ _ _ z _ => z.elim, fun _ _ _ _ => False, fun _ _ x => ?_, fun _ _ _ _ _ _ z => z.elim⟩ pins s2 I2
      · subst hd
        exact hQ F v H2 gF (sok0 J2.fr J2.od J2.tb J2.ft) (rv.mono (ex_hid fun a o _ n h => ⟨fun z => n (.inl z), h⟩))
      · obtain ⟨_, _, _, _, _, _, _, _, _, _, _, _, _, _, _, _, z⟩ := x
        exact z.elim
    · cases r0 with
      | ok d =>
        have e1 := hok d rfl
        subst e1
        have eO : ∀ a, UU O [] a ↔ O a := fun a => ⟨fun z => z.elim id fun ⟨_, z⟩ => (List.not_mem_nil z).elim, .inl⟩
        exact fun v rv => ⟨by rw [sizeLine_eq]; show 2 ≤ 16777216; decide, fun p hp => hQ F _ _ gF (J.new hp) (.tup (.of (by have := J.newHid (o := .tup [V.str ret, v]) hp; rw [hid_congr eO] at this; exact this)) (.cons (.str ret) (.one (rv.mono (ex_new hp)))))⟩
      | error er => exact fun cls dd re => ⟨er, F, rfl, gF, J, re⟩
/-- try: a() / except CS as n: suite, where the try hands back (ret, a()) -/
theorem word_givesR {X : Cx} {Ng : List Str} {x a e n q ret : Str} {sg : Scope} {g CS : Addr} {cdg : Value} {b₀ : Stmt} {suite : List Stmt} {iE : Nat} {r0 : Res} {dW : VL.D} {kt} {j} {p1 p2 p3 p4 p7 p8 p9 p11 : Pos}
    (hge : sg.names.lookup e = some .globalImplicit) (hme : X.mg e = some (.ref CS)) (hde : (e == ("__debug__" : Str)) = false) (h0 : ∀ f : Addr, (L2.start Ng [V.ref f])[0]? = some (some (V.ref f))) (hN : Ng.Nodup) (hi : Ng[iE]? = some n) (hln : sg.names.lookup n = some .local)
    (hok : ∀ d, r0 = .ok d → dW = .tup [.str ret, d])
    (herr : ∀ er, r0 = .error er → PySem.W.exmOne X.K (.ref er.C) (.ref CS) = some true ∧ ∀ (s : Shared) (H : Hp) (aE : Addr) (oe : Obj) (dd : Option Addr) (pn : List (Addr × Obj)), L2N.Zn (.ref er.C) dd oe → (∃ vs, oe.data = .fields vs) → (dd = none → er.fs = []) →
      CSs ((cxOf C8.CX0 X.prog X.w X.K X.mg X.base Ng x sg g cdg X.A X.stack s H C8.E0).nox.suite aE ((aE, oe) :: pn)) ((List.replicate Ng.length Sl.un).set iE (.dat (exD aE dd er.fs))) (b₀ :: suite) { nx := fun _ => False, rt := fun d _ => d = dW }) :
    GivesToN X Ng x sg g cdg [.Try [.Return (some (.Tuple [.Constant (.str ret) j p9, .Call (.Name a p1) [] [] p2] kt p11)) p3] [.ExceptHandler (some (.Name e p4)) (some n) (b₀ :: suite) p7] [] [] p8] a q (TTw X.K r0 dW) :=
  GivesToN.imp (word_givesRm (ret := ret) (iE := iE) (CS := CS) hge hme hde h0 hN hi hln hok herr) fun _ _ _ h => h.m
section
variable {X : Cx} {ρ ρ2 : Lo}
/-- x(lambda: body), where the body may turn own lists -/
theorem c_lamcallM {r0 : Res} {dW : VL.D} {x a : Str} {g c P : Addr} {k : Nat} {pg : Arguments} {bg : List Stmt} {sg : Scope} {dV kV doc pm cdv ct oc : Value} {an od : Option Addr} {osl : Array (Option Value)} {Ng : List Str}
    {params : Arguments} {body : Expr} {scope : Scope} {p lpos pos : Pos} (ow : owns ρ2 = owns ρ) (hm : X.mg x = some (.ref g)) (hk : PySem.W.keepIn X.K (.ref g) = true)
    (lk : X.K.lookup g = some ⟨oc, od, .func (PySem.W.fnOf x x pg bg sg dV kV doc pm an cdv ct), osl⟩) (hcg : PySem.W.codeIn X.K cdv x = true) (hb : L2.Binds X.K (PySem.W.fnOf x x pg bg sg dV kV doc pm an cdv ct) [a] []) (Sg : FnScope Ng [a] sg) (hNg : Ng[0]? = some a) (hva : Vis sg a)
    (hG : GivesToN X Ng x sg g cdv bg a (X.env.qual ++ "<lambda>") (TTm X.K r0 dW))
    (TB : TabB X.base X.mg c P) (hcode : X.env.code = .ref c) (hmT : (P, X.env.qual ++ "<lambda>") ∈ lamT) (hu : ∀ p ∈ lamT, p.1 = P → p.2 = X.env.qual ++ "<lambda>") (hr : VL.Room (k + 2) X.A)
    (hbody : ∀ (A : Around) (outer : List Env) (s : Shared) (H : Hp) (E : XK) (f c' : Addr), VL.Room k (A.deeper (lamEnv X scope s.heap.objs.size f c')) → CQ (lamCxN X A outer s H E scope f c') ρ body fun r ρ' => r = r0 ∧ ρ' = ρ2)
    (L : LamS X.env.scope scope) (hdef : defaultsOf params X.env = ([], [])) (hbind : ∀ (q : Str) (cl : List (Str × Addr)) (pm cv ctv : Value), bindArgs (PySem.W.kla_fn "<lambda>" q params body scope cl pm cv ctv) ⟨[], []⟩ = pure [])
    (hg : Gl X x := by rfl) (hdb : (x == ("__debug__" : Str)) = false := by decide) (hd : (a == ("__debug__" : Str)) = false := by decide) (hcd : (a == ("__classdict__" : Str)) = false := by decide) :
    CE X ρ (.Call (.Name x p) [.Lambda params body scope lpos] [] pos) dW ρ2 := by
  refine .of (pe_lamcallN (T := lamT) (t := fun E σ H Q => ∀ (A : Around) (outer : List Env) (s : Shared) (H0 : Hp) (f c' : Addr), VL.Room k (A.deeper (lamEnv X scope s.heap.objs.size f c')) → tw (lamCxN X A outer s H0 E scope f c') body σ H Q)
    hg hm hk lk hcg hb Sg hNg hva hG TB hcode hmT hu hr L hdef hbind (fun A outer s H E f c' hr' => ⟨fun pins s1 σ H1 Q I h => h A outer s H f c' hr' pins s1 I⟩) hdb hd hcd) ⟨ow, fun F O σ H Q I q => ⟨I.tb, fun H1 eN T1 => ?_⟩⟩
  have e1 : ExN H H1 := fun b o t h => eN b o h t.nt
  have I1 := I.ext e1 T1
  have eo : ∀ a, UU O ρ2 a ↔ UU O ρ a := fun a => by unfold UU; rw [ow]
  refine ⟨hid (fun _ => False) H1, UU O ρ, fun F2 => ∃ H2, SOk X.K F O ρ2 σ H2 ∧ F2 = hid (fun _ => False) H2, sok0 hid_ex (fun a z => ?_) T1 (fun _ _ h => nt_hid h), fun E Q' hh A outer s H0 f c' hr' => ?_, fun F2 v H' hF2 J rv => ?_⟩
  · obtain ⟨o, h1, t⟩ := I1.odU a z
    exact ⟨o, hid_of id h1⟩
  · refine fun pins s1 J => hbody A outer s H0 E f c' hr' _ O σ H1 Q' (fun cls d _ H => E cls d H) I1.sup takes_lam (fun d ρ' v H' hR _ J' rv => ?_) (fun er ρ' H' cls dd hR J' re => ?_) pins s1 J
    · obtain ⟨hR, rfl⟩ := hR
      subst hR
      have K1 := J'.weak I1.le_sup I1.od
      have := hh _ H' ⟨H', K1, rfl⟩ (sok0 hid_ex (fun a z => by
        obtain ⟨o, h1, t⟩ := K1.odU a ((eo a).mpr z)
        exact ⟨o, hid_of id h1⟩) J'.tb (fun _ _ h => nt_hid h))
      exact this v (by rw [← hid_congr eo]; exact rv)
    · obtain ⟨hR, rfl⟩ := hR
      subst hR
      have K1 := J'.weak I1.le_sup I1.od
      have := hh _ H' ⟨H', K1, rfl⟩ (sok0 hid_ex (fun a z => by
        obtain ⟨o, h1, t⟩ := K1.odU a ((eo a).mpr z)
        exact ⟨o, hid_of id h1⟩) J'.tb (fun _ _ h => nt_hid h))
      exact this cls dd (by rw [← hid_congr eo]; exact re)
  · obtain ⟨H2, K2, rfl⟩ := hF2
    have e2 : ExN H2 H' := fun a o t h => J.fr a o (hid_of id h)
    exact q v H' (K2.ext e2 J.tb) (by rw [hid_congr eo]; exact rv)
end
end VLH
end

section
set_option Elab.async false
set_option linter.all false
set_option maxRecDepth 100000
set_option maxHeartbeats 4000000
namespace VL
open PySem PySem.Spec PyProof.Rows L2
/-! ### a def that a name of the frame holds -/
structure FnA (P : Program) (w : World) (K : PySem.W.Frag) (mg : Str → Option Value) (base : Heap) (k : Nat) (f : Addr) (S : Spec) : Prop where
  mono : ∀ ρ (R R' : Res → Lo → Prop), (∀ r ρ', R r ρ' → R' r ρ') → S ρ R → S ρ R'
  ex : ∃ fd ps, FnOk P w K mg base (L2N.CX P w) k f fd ps (spV K S) ∧ PySem.W.keepIn K (.ref f) = true ∧ Binds K fd ps []
theorem FnV.at {P : Program} {w : World} {K : PySem.W.Frag} {mg : Str → Option Value} {base : Heap} {j k : Nat} {f : Addr} {x : Str} {S : Spec} (F : FnV P w K mg base j x S) (h : mg x = some (.ref f)) (hk : j ≤ k) : FnA P w K mg base k f S := by
  obtain ⟨g, fd, ps, h1, h2, h3, h4⟩ := F.ex
  rw [h] at h2
  cases h2
  exact ⟨F.mono, fd, ps, h1.mono hk, h3, h4⟩
section
variable {X : Cx} {E : L2.St → XK} {k i : Nat} {f : Addr} {fd : FuncData} {ps : List Str} {sp : Sp} {x n : Str} {p pos : Pos} {e : Expr} {es : List Expr} {t : TA} {ρ ρ1 : Lo} {ds : List D} {d : D} {S : Spec}
theorem pe_callLS (F : FnOk X.prog X.w X.K X.mg X.base (L2N.CX X.prog X.w) k f fd ps sp) (hr : Room k X.A) (hN : X.N[i]? = some x) (hv : Vis X.env.scope x) (hk : PySem.W.keepIn X.K (.ref f) = true) (hb : Binds X.K fd ps []) (hx : ∀ σ, PassesAt (L2N.CX X.prog X.w) X σ (E σ)) (ha : PA X (e :: es) t)
    (hdb : (x == ("__debug__" : Str)) = false := by decide) (hcd : (x == ("__classdict__" : Str)) = false := by decide)
    (he : starEach (e :: es) X.env = (false, eval e X.env) :: starEach es X.env := by rfl) (hpl : (backTo pos (starEach es X.env)).any (·.1) = false := by rfl) : PE X (.Call (.Name x p) (e :: es) [] pos) (fun σ H Q => σ[i]? = some (some (.ref f)) ∧ t σ H fun vs H1 => sp vs H1 Q (E σ)) := by
  refine ⟨fun pins s σ H Q I h => ?_⟩
  obtain ⟨hs, ht⟩ := h
  refine wpAny_Call_Name_kw (thn ((pe_var (pos := p) hN hv hdb hcd).run pins s σ H (fun v H1 => v = .ref f ∧ H1 = H) I ⟨.ref f, hs, rfl, rfl⟩) fun u s1 ⟨v, H1, I1, r1, q1⟩ => ?_)
  obtain ⟨rfl, rfl⟩ := q1
  cases r1
  refine PySem.W.callWith_K (h₀ := X.base) I.ok.mod.kin hk (thn (ha.run pos pins s1 σ _ _ I1 ht) fun us s2 ⟨vs, H2, I2, r, q⟩ => ⟨I2.kIn, ?_⟩) he hpl
  exact run_fnX F hr hb .nil (fun u s' z => hx σ pins H2 s2 u s' I2 z) I2 r (by rw [List.append_nil]; exact q)
/-- n(e, ..), where n holds the def at f -/
theorem q_callV (i : Nat) {R : Res → Lo → Prop} (Fn : FnA X.prog X.w X.K X.mg X.base k f S) (hr : Room k X.A) (hi : ρ[i]? = some (.dat (.adr f))) (ha : CD X ρ (e :: es) ds ρ1) (hS : S (ds.map .dat) fun r ρa => ρa = ds.map .dat ∧ R r ρ1) (hN : X.N[i]? = some n := by rfl)
    (hv : Vis X.env.scope n := by first | exact Or.inl rfl | exact Or.inr (Or.inl rfl) | exact Or.inr (Or.inr rfl)) (hdb : (n == ("__debug__" : Str)) = false := by decide) (hcd : (n == ("__classdict__" : Str)) = false := by decide)
    (he : starEach (e :: es) X.env = (false, eval e X.env) :: starEach es X.env := by rfl) (hpl : (backTo pos (starEach es X.env)).any (·.1) = false := by rfl) : CQ X ρ (.Call (.Name n p) (e :: es) [] pos) R := fun F O σ H Q Wx I tk q1 q2 pins s Iv => by
  obtain ⟨fd, ps, hF, hk, hb⟩ := Fn.ex
  obtain ⟨v, hv1, hv2⟩ := I.dat i _ hi
  cases hv2
  refine (pe_callLS hF hr hN hv hk hb (fun σ => L2N.passAt tk σ) pa_tw hdb hcd he hpl).run pins s σ H Q Iv ⟨hv1, ?_⟩
  refine ha.2 F O σ H _ I fun vs H1 J rs => ?_
  have eu : ∀ a, UU (UU O ρ1) (ds.map .dat) a ↔ UU O ρ1 a := fun a => ⟨fun z => z.elim id fun z => absurd z owns_dats, .inl⟩
  refine ⟨UU O ρ1, ds.map .dat, args_ok rs J.odU J.tb, Fn.mono _ _ _ (fun r ρa ⟨ea, hR⟩ => ?_) hS⟩
  subst ea
  intro _ H' L
  have M := J.ext (ex_dats L) L.tb
  cases r with
  | ok d => exact fun v rv => q1 d _ v H' hR ha.1 M (by rw [← hid_congr eu]; exact rv)
  | error er => exact fun cls dd h => q2 er _ H' cls dd hR M (by rw [← hid_congr eu]; exact h)
end
end VL
end

section
set_option Elab.async false
set_option linter.all false
set_option maxRecDepth 100000
set_option maxHeartbeats 4000000
namespace VL
open PySem PySem.Spec PyProof.Rows L2
section
variable {X : Cx} {e a b c o : Expr} {es : List Expr} {ρ ρ1 ρ2 ρ' : Lo} {pos p p2 apos cpos : Pos} {ds : List D} {d x y z : D} {name : Str} {i j : Int}
/-! ### whether a number is in a list or tuple of numbers -/
theorem opd_inT {neg : Bool} {i : Int} {ns : List Int} : OpD X.K (rIn X.K neg) (.int i) (.tup (ns.map D.int)) (.bl (if neg then !ns.contains i else ns.contains i)) := fun F O ρ σ H v w Q I r1 r2 q => by
  cases r1
  cases r2 with
  | tup h1 s1 =>
    rw [s1.ints] at h1
    refine ⟨_, _, rfl, .inr (hid_ex.t h1), rfl, flat_ints _, ?_⟩
    rw [inV_ints]
    exact q _ _ I (.bl _)
theorem opd_inL {neg : Bool} {i : Int} {ns : List Int} : OpD X.K (rIn X.K neg) (.int i) (.lst (ns.map D.int)) (.bl (if neg then !ns.contains i else ns.contains i)) := fun F O ρ σ H v w Q I r1 r2 q => by
  cases r1
  cases r2 with
  | lst h1 s1 =>
    rw [s1.ints] at h1
    refine ⟨_, _, rfl, .inl (.inl (.inl (hid_ex _ _ h1))), rfl, flat_ints _, ?_⟩
    rw [inV_ints]
    exact q _ _ I (.bl _)
theorem c_inT {ns : List Int} (ha : CE X ρ a (.int i) ρ1) (hb : CE X ρ1 b (.tup (ns.map D.int)) ρ2) (hm : behindInMarks .In b = false := by rfl) : CE X ρ (.Compare a [.In] [b] pos) (.bl (ns.contains i)) ρ2 := c_cmp op_in_seq (opd_inT (neg := false)) ha hb hm
theorem c_inL {ns : List Int} (ha : CE X ρ a (.int i) ρ1) (hb : CE X ρ1 b (.lst (ns.map D.int)) ρ2) (hm : behindInMarks .In b = false := by rfl) : CE X ρ (.Compare a [.In] [b] pos) (.bl (ns.contains i)) ρ2 := c_cmp op_in_seq (opd_inL (neg := false)) ha hb hm
theorem c_ninL {ns : List Int} (ha : CE X ρ a (.int i) ρ1) (hb : CE X ρ1 b (.lst (ns.map D.int)) ρ2) (hm : behindInMarks .NotIn b = false := by rfl) : CE X ρ (.Compare a [.NotIn] [b] pos) (.bl (!ns.contains i)) ρ2 := c_cmp op_notIn_seq (opd_inL (neg := true)) ha hb hm
theorem c_ninT {ns : List Int} (ha : CE X ρ a (.int i) ρ1) (hb : CE X ρ1 b (.tup (ns.map D.int)) ρ2) (hm : behindInMarks .NotIn b = false := by rfl) : CE X ρ (.Compare a [.NotIn] [b] pos) (.bl (!ns.contains i)) ρ2 := c_cmp op_notIn_seq (opd_inT (neg := true)) ha hb hm
theorem t_inL {ns : List Int} (ha : CE X ρ a (.int i) ρ1) (hb : CE X ρ1 b (.lst (ns.map D.int)) ρ2) (hm : behindInMarks .In b = false := by rfl) : CT X ρ (.Compare a [.In] [b] pos) (ns.contains i) ρ2 := t_cmp op_in_seq (opd_inL (neg := false)) ha hb hm
theorem t_ninL {ns : List Int} (ha : CE X ρ a (.int i) ρ1) (hb : CE X ρ1 b (.lst (ns.map D.int)) ρ2) (hm : behindInMarks .NotIn b = false := by rfl) : CT X ρ (.Compare a [.NotIn] [b] pos) (!ns.contains i) ρ2 := t_cmp op_notIn_seq (opd_inL (neg := true)) ha hb hm
theorem t_ninT {ns : List Int} (ha : CE X ρ a (.int i) ρ1) (hb : CE X ρ1 b (.tup (ns.map D.int)) ρ2) (hm : behindInMarks .NotIn b = false := by rfl) : CT X ρ (.Compare a [.NotIn] [b] pos) (!ns.contains i) ρ2 := t_cmp op_notIn_seq (opd_inT (neg := true)) ha hb hm
/-! ### tuple(range(..)), list(range(..)) -/
/-- the numbers of a range -/
def rangeI (lo : Int) (n : Nat) : List Int := (List.range n).map fun i => lo + (i : Nat)
theorem rangeI_len {lo : Int} {n : Nat} : (rangeI lo n).length = n := by unfold rangeI; rw [List.length_map, List.length_range]
theorem rgV_range {a b : Int} : rgV a b = (rangeI a (b - a).toNat).map V.int := by
  unfold rgV rangeI
  rw [List.map_map]
  rfl
theorem rangeD_eq {lo : Int} {n : Nat} : rangeD lo n = (rangeI lo n).map D.int := by
  unfold rangeD rangeI
  rw [List.map_map]
  rfl
theorem c_tupRg2 (hc : X.calm = true) (hm : X.mg "range" = none) (ht : X.mg "tuple" = none) (ha : CE X ρ a (.int i) ρ1) (hb : CE X ρ1 b (.int j) ρ2) (hz : RgOk i j) (hg : Gl X "range" := by rfl) (hgt : Gl X "tuple" := by rfl)
    (na : starEach [a, b] X.env = (false, eval a X.env) :: starEach [b] X.env := by rfl) (nb : starEach [b] X.env = (false, eval b X.env) :: starEach [] X.env := by rfl) (hp : (backTo p2 (starEach [b] X.env)).any (·.1) = false := by rfl)
    (ne : starEach [.Call (.Name "range" apos) [a, b] [] p2] X.env = (false, eval (.Call (.Name "range" apos) [a, b] [] p2) X.env) :: starEach [] X.env := by rfl) :
    CE X ρ (.Call (.Name "tuple" p) [.Call (.Name "range" apos) [a, b] [] p2] [] pos) (.tup ((rangeI i (j - i).toNat).map D.int)) ρ2 :=
  .of (pe_tupRg hc hgt ht (prg_2 hg hm pe_tw pe_tw na nb hp) ne) ⟨hb.1.trans ha.1, fun F O σ H Q I q => ev2 ha hb I fun v w H2 J r1 r2 => by
    cases r1
    cases r2
    refine ⟨i, j, rfl, rfl, hz, fun l hl => ?_⟩
    rw [rgV_range]
    exact q _ _ (J.new hl) (.tup (.of (J.newHid hl)) (Reps.ofInts _))⟩
theorem n_listRg2 (hc : X.calm = true) (hm : X.mg "range" = none) (ht : X.mg "list" = none) (ha : CE X ρ a (.int i) ρ1) (hb : CE X ρ1 b (.int j) ρ2) (hz : RgOk i j) (hg : Gl X "range" := by rfl) (hgt : Gl X "list" := by rfl)
    (na : starEach [a, b] X.env = (false, eval a X.env) :: starEach [b] X.env := by rfl) (nb : starEach [b] X.env = (false, eval b X.env) :: starEach [] X.env := by rfl) (hp : (backTo p2 (starEach [b] X.env)).any (·.1) = false := by rfl)
    (ne : starEach [.Call (.Name "range" apos) [a, b] [] p2] X.env = (false, eval (.Call (.Name "range" apos) [a, b] [] p2) X.env) :: starEach [] X.env := by rfl) :
    CN X ρ (.Call (.Name "list" p) [.Call (.Name "range" apos) [a, b] [] p2] [] pos) ((rangeI i (j - i).toNat).map D.int) ρ2 :=
  .of (pe_listRg hc hgt ht (prg_2 hg hm pe_tw pe_tw na nb hp) ne) ⟨hb.1.trans ha.1, fun F O σ H Q I q => ev2 ha hb I fun v w H2 J r1 r2 => by
    cases r1
    cases r2
    refine ⟨i, j, rfl, rfl, hz, fun l hl => ?_⟩
    rw [rgV_range]
    exact q l _ _ J hl (Reps.ofInts _)⟩
end
/-! ### a, b = [..], [..] where a name is a cell -/
section
variable {X : Cx} {a b : Expr} {ρ ρ1 ρ2 : Lo} {pos : Pos} {i j : Nat} {n m : Str} {ds es' : List D} {W : WE} {rest : List Stmt} {y : D}
theorem css_tup2N (i j : Nat) {px py pt pt2 : Pos} {kt k2} (B : Bd X) (ha : CN X ρ a ds ρ1) (hb : CN X ρ1 b es' ρ2) (k : ∀ q p, CSs X ((ρ2.set i (.mut q ds)).set j (.mut p es')) rest W) (hl : i < ρ2.length := by first | decide | simp) (hl2 : j < ρ2.length := by first | decide | simp) (hi : X.N[i]? = some n := by rfl) (hj : X.N[j]? = some m := by rfl)
    (hx : Loc X.env.scope n := by first | exact Or.inl rfl | exact Or.inr rfl) (hy : Loc X.env.scope m := by first | exact Or.inl rfl | exact Or.inr rfl)
    (hf : X.fn n = true ∨ X.env.scope.names.lookup n = some .local := by first | exact .inl rfl | exact .inr rfl) (hf2 : X.fn m = true ∨ X.env.scope.names.lookup m = some .local := by first | exact .inl rfl | exact .inr rfl)
    (hw : swappedStores [.Tuple [.Name n px, .Name m py] kt pt] (.Tuple [a, b] k2 pt2) X.env = pure none := by rfl)
    (hs : swapsWithSole [.Tuple [.Name n px, .Name m py] kt pt] (.Tuple [a, b] k2 pt2) pos.line X.env = pure false := by rfl)
    (h1 : (assignEach [.Tuple [.Name n px, .Name m py] kt pt] X.env).map (·.2) = [assign (.Tuple [.Name n px, .Name m py] kt pt) X.env] := by rfl)
    (g1 : (assignEach [.Name n px, .Name m py] X.env).map (·.2) = assign (.Name n px) X.env :: (assignEach [.Name m py] X.env).map (·.2) := by rfl) (g2 : (assignEach [.Name m py] X.env).map (·.2) = assign (.Name m py) X.env :: (assignEach [] X.env).map (·.2) := by rfl)
    (hn : (assignEach [.Name n px, .Name m py] X.env).length = 2 := by rfl) (hst : (assignEach [.Name n px, .Name m py] X.env).findIdx? (·.1) = none := by rfl)
    (he : starEach [a, b] X.env = (false, eval a X.env) :: starEach [b] X.env := by rfl) (he2 : starEach [b] X.env = (false, eval b X.env) :: starEach [] X.env := by rfl) : CSs X ρ (.Assign [.Tuple [.Name n px, .Name m py] kt pt] (.Tuple [a, b] k2 pt2) pos :: rest) W :=
  css_of (ps_asg (pe_tup (pa_cons pe_tw (pa_cons pe_tw pa_nil he2) he)) (pg_tup B.calm (pgs_cons (pg_name B.nd hi hx hf) (pgs_cons (pg_name B.nd hj hy hf2) pgs_nil g2) g1) hn hst) hs hw h1) fun F O σ H E I r => ha.2 F O σ H _ I fun q vs H1 J hp rv =>
    after_newN (e := a) J hp rv hb fun p ws H2 L hq rs hp2 rws hq2 => by
      refine ⟨by rw [sizeLine_eq]; show 2 ≤ 16777216; decide, fun t ht => ⟨t, [.ref q, .ref p], rfl, .of (if_pos rfl), rfl, _, _, rfl, _, _, rfl, rfl, r.nx _ _ _ (k q p) (SOk.new ?_ ht)⟩⟩
      have M := L.own1 hq rs hl
      rw [upd_delH hq2] at M
      refine M.own1 hp2 (rws.mono (ex_hid fun a o _ nn h => ⟨fun zz => ?_, ?_⟩)) (by rw [List.length_set]; exact hl2)
      · rcases zz with zz | ⟨es, zz⟩
        · exact nn (.inl zz)
        · rcases List.mem_or_eq_of_mem_set zz with zz | zz
          · exact nn (.inr ⟨es, zz⟩)
          · cases zz
            rw [hq] at h
            cases h
      · have na : a ≠ q := fun e => by
          subst e
          rw [hq] at h
          cases h
        rw [delH_ne na] at h
        exact h
/-- a, b = [..], y -/
theorem css_tupN (i j : Nat) {px py pt pt2 : Pos} {kt k2} (B : Bd X) (ha : CN X ρ a ds ρ1) (hb : CE X ρ1 b y ρ2) (k : ∀ q, CSs X ((ρ2.set i (.mut q ds)).set j (.dat y)) rest W) (hl : i < ρ2.length := by first | decide | simp) (hi : X.N[i]? = some n := by rfl) (hj : X.N[j]? = some m := by rfl)
    (hx : Loc X.env.scope n := by first | exact Or.inl rfl | exact Or.inr rfl) (hy : Loc X.env.scope m := by first | exact Or.inl rfl | exact Or.inr rfl)
    (hf : X.fn n = true ∨ X.env.scope.names.lookup n = some .local := by first | exact .inl rfl | exact .inr rfl) (hf2 : X.fn m = true ∨ X.env.scope.names.lookup m = some .local := by first | exact .inl rfl | exact .inr rfl)
    (hw : swappedStores [.Tuple [.Name n px, .Name m py] kt pt] (.Tuple [a, b] k2 pt2) X.env = pure none := by rfl)
    (hs : swapsWithSole [.Tuple [.Name n px, .Name m py] kt pt] (.Tuple [a, b] k2 pt2) pos.line X.env = pure false := by rfl)
    (h1 : (assignEach [.Tuple [.Name n px, .Name m py] kt pt] X.env).map (·.2) = [assign (.Tuple [.Name n px, .Name m py] kt pt) X.env] := by rfl)
    (g1 : (assignEach [.Name n px, .Name m py] X.env).map (·.2) = assign (.Name n px) X.env :: (assignEach [.Name m py] X.env).map (·.2) := by rfl) (g2 : (assignEach [.Name m py] X.env).map (·.2) = assign (.Name m py) X.env :: (assignEach [] X.env).map (·.2) := by rfl)
    (hn : (assignEach [.Name n px, .Name m py] X.env).length = 2 := by rfl) (hst : (assignEach [.Name n px, .Name m py] X.env).findIdx? (·.1) = none := by rfl)
    (he : starEach [a, b] X.env = (false, eval a X.env) :: starEach [b] X.env := by rfl) (he2 : starEach [b] X.env = (false, eval b X.env) :: starEach [] X.env := by rfl) : CSs X ρ (.Assign [.Tuple [.Name n px, .Name m py] kt pt] (.Tuple [a, b] k2 pt2) pos :: rest) W :=
  css_of (ps_asg (pe_tup (pa_cons pe_tw (pa_cons pe_tw pa_nil he2) he)) (pg_tup B.calm (pgs_cons (pg_name B.nd hi hx hf) (pgs_cons (pg_name B.nd hj hy hf2) pgs_nil g2) g1) hn hst) hs hw h1) fun F O σ H E I r => ha.2 F O σ H _ I fun q vs H1 J hp rv =>
    after_new (e := a) J hp rv hb fun w H2 L hq rs rw' hq2 _ => by
      refine ⟨by rw [sizeLine_eq]; show 2 ≤ 16777216; decide, fun t ht => ⟨t, [.ref q, w], rfl, .of (if_pos rfl), rfl, _, _, rfl, _, _, rfl, rfl, r.nx _ _ _ (k q) (SOk.new ?_ ht)⟩⟩
      have M := L.own1 hq rs hl
      rw [upd_delH hq2] at M
      refine M.set (rw'.mono (ex_hid fun a o _ nn h => ⟨fun zz => ?_, ?_⟩))
      · rcases zz with zz | ⟨es, zz⟩
        · exact nn (.inl zz)
        · rcases List.mem_or_eq_of_mem_set zz with zz | zz
          · exact nn (.inr ⟨es, zz⟩)
          · cases zz
            rw [hq] at h
            cases h
      · have na : a ≠ q := fun e => by
          subst e
          rw [hq] at h
          cases h
        rw [delH_ne na] at h
        exact h
end
/-! ### lists and tuples of ints compared -/
theorem pydsI : ∀ xs : List Int, pyds (xs.map D.int) = xs.map PyData.int
  | [] => rfl
  | x :: xs => by
    show pyd (.int x) :: pyds (xs.map D.int) = _
    rw [pydsI xs]
    rfl
theorem layI : ∀ xs : List Int, PyData.canLayAll0 (xs.map PyData.int) = true
  | [] => by simp only [List.map_nil, PyData.canLayAll0]
  | x :: xs => by
    simp only [List.map_cons, PyData.canLayAll0, PyData.canLay0, Bool.true_and]
    exact layI xs
theorem depI : ∀ xs : List Int, PyData.depthAll (xs.map PyData.int) = 0
  | [] => by simp only [List.map_nil, PyData.depthAll]
  | x :: xs => by
    simp only [List.map_cons, PyData.depthAll, PyData.depth]
    rw [depI xs]
    rfl
theorem eqvI : ∀ xs ys : List Int, PyData.eqvAll (xs.map PyData.int) (ys.map PyData.int) = decide (xs = ys)
  | [], [] => by simp only [List.map_nil, PyData.eqvAll]; rfl
  | [], y :: ys => by simp [PyData.eqvAll]
  | x :: xs, [] => by simp [PyData.eqvAll]
  | x :: xs, y :: ys => by
    simp only [List.map_cons, PyData.eqvAll, PyData.eqv]
    rw [eqvI xs ys]
    by_cases h : x = y <;> by_cases h2 : xs = ys <;> simp [h, h2]
theorem shapedL (xs : List Int) : SeqAt.shaped (pyd (.lst (xs.map D.int))) = true := by
  unfold SeqAt.shaped
  simp only [pyd, PyData.canLay0, PyData.depth]
  rw [pydsI, layI, depI]
  rfl
theorem shapedT (xs : List Int) : SeqAt.shaped (pyd (.tup (xs.map D.int))) = true := by
  unfold SeqAt.shaped
  simp only [pyd, PyData.canLay0, PyData.depth]
  rw [pydsI, layI, depI]
  rfl
theorem eqvL (xs ys : List Int) : PyData.eqv (pyd (.lst (xs.map D.int))) (pyd (.lst (ys.map D.int))) = decide (xs = ys) := by
  simp only [pyd, PyData.eqv]
  rw [pydsI, pydsI, eqvI]
theorem eqvT (xs ys : List Int) : PyData.eqv (pyd (.tup (xs.map D.int))) (pyd (.tup (ys.map D.int))) = decide (xs = ys) := by
  simp only [pyd, PyData.eqv]
  rw [pydsI, pydsI, eqvI]
section
variable {X : Cx} {a b : Expr} {ρ ρ1 ρ2 : Lo} {pos : Pos} {xs ys : List Int}
theorem t_neLI (hu : X.A.units + 64 < cLine) (ha : CE X ρ a (.lst (xs.map D.int)) ρ1) (hb : CE X ρ1 b (.lst (ys.map D.int)) ρ2) : CT X ρ (.Compare a [.NotEq] [b] pos) (!decide (xs = ys)) ρ2 :=
  CT.eq (t_neD hu ha hb (eqDs_ints xs) (eqDs_ints ys) (shapedL xs) (shapedL ys)) (by rw [eqvL])
theorem t_eqLI (hu : X.A.units + 64 < cLine) (ha : CE X ρ a (.lst (xs.map D.int)) ρ1) (hb : CE X ρ1 b (.lst (ys.map D.int)) ρ2) : CT X ρ (.Compare a [.Eq] [b] pos) (decide (xs = ys)) ρ2 :=
  CT.eq (t_eqD hu ha hb (eqDs_ints xs) (eqDs_ints ys) (shapedL xs) (shapedL ys)) (by rw [eqvL])
theorem c_eqLI (hu : X.A.units + 64 < cLine) (ha : CE X ρ a (.lst (xs.map D.int)) ρ1) (hb : CE X ρ1 b (.lst (ys.map D.int)) ρ2) : CE X ρ (.Compare a [.Eq] [b] pos) (.bl (decide (xs = ys))) ρ2 :=
  CE.eq (c_eqD hu ha hb (eqDs_ints xs) (eqDs_ints ys) (shapedL xs) (shapedL ys)) (by rw [eqvL])
theorem t_neTI (hu : X.A.units + 64 < cLine) (ha : CE X ρ a (.tup (xs.map D.int)) ρ1) (hb : CE X ρ1 b (.tup (ys.map D.int)) ρ2) : CT X ρ (.Compare a [.NotEq] [b] pos) (!decide (xs = ys)) ρ2 :=
  CT.eq (t_neD hu ha hb (eqDs_ints xs) (eqDs_ints ys) (shapedT xs) (shapedT ys)) (by rw [eqvT])
theorem t_eqTI (hu : X.A.units + 64 < cLine) (ha : CE X ρ a (.tup (xs.map D.int)) ρ1) (hb : CE X ρ1 b (.tup (ys.map D.int)) ρ2) : CT X ρ (.Compare a [.Eq] [b] pos) (decide (xs = ys)) ρ2 :=
  CT.eq (t_eqD hu ha hb (eqDs_ints xs) (eqDs_ints ys) (shapedT xs) (shapedT ys)) (by rw [eqvT])
theorem c_eqTI (hu : X.A.units + 64 < cLine) (ha : CE X ρ a (.tup (xs.map D.int)) ρ1) (hb : CE X ρ1 b (.tup (ys.map D.int)) ρ2) : CE X ρ (.Compare a [.Eq] [b] pos) (.bl (decide (xs = ys))) ρ2 :=
  CE.eq (c_eqD hu ha hb (eqDs_ints xs) (eqDs_ints ys) (shapedT xs) (shapedT ys)) (by rw [eqvT])
end
section
variable {X : Cx} {a b : Expr} {ρ ρ1 ρ2 : Lo} {pos : Pos} {i j : Bool}
theorem t_isnB (ha : CE X ρ a (.bl i) ρ1) (hb : CE X ρ1 b (.bl j) ρ2) : CT X ρ (.Compare a [.IsNot] [b] pos) (!decide (i = j)) ρ2 :=
  t_cmp op_isnot_bl (fun F O ρ σ H v w Q I r1 r2 q => by cases r1; cases r2; exact ⟨_, _, rfl, rfl, q _ _ I (.bl _)⟩) ha hb (nomark _)
end
section
variable {P : Program} {w : World} {K : PySem.W.Frag} {mg : Str → Option Value} {base : Heap} {k : Nat} {x : Str} {st : Stmt} {f : Addr} {fd : FuncData} {N ps : List Str}
/-- data in, a result out; the def's code is known -/
theorem fn_pureC {A : List D → Res → Prop} (Fu : Fun K x x st f fd) (Sc : FnScope N ps (defScope st)) (hb : Binds K fd ps []) (hm : mg x = some (.ref f)) (hlen : ∀ ds r, A ds r → ds.length = ps.length)
    (hbody : ∀ (cdv : Value), fd.code = cdv → ∀ (A' : Around) (outer : List Env) (s : Shared) (H : Hp) (E : XK), Room k (cx P w K mg base N x st f cdv A' outer s H E).A → Bd (cx P w K mg base N x st f cdv A' outer s H E) → ∀ ds r, A ds r →
      CSs (cx P w K mg base N x st f cdv A' outer s H E) (ds.map .dat ++ List.replicate (N.length - ps.length) .un) (defBody st) { nx := fun _ => r = .ok .non, rt := fun d _ => r = .ok d, er := fun e _ => r = .error e }) : FnV P w K mg base (k + 1) x (detS A) := by
  refine ⟨detS_mono, f, fd, ps, Fun.okXC Fu Sc (fun vs H Q E h => ?_) (fun cdv hcd A' outer s H vs Q E hr h => ⟨_, pss_tw, ?_⟩), hm, Fu.kp, hb⟩
  · obtain ⟨O, ρ, I, ds, r, rfl, a, _⟩ := h
    have := I.len
    rw [List.length_map, List.length_map] at this
    rw [this]
    exact hlen ds r a
  · obtain ⟨O, ρ, I, ds, r, rfl, a, po⟩ := h
    have hl : vs.length = ps.length := by
      have := I.len
      rw [List.length_map, List.length_map] at this
      rw [this]
      exact hlen ds r a
    intro pins s1 Iv
    rw [start_eq hl] at Iv
    have post := po rfl
    have exH : ExN H (VL.sup (ds.map .dat) H) := fun a o _ h => hid_of owns_dats h
    have sub : ∀ {ρ' : Lo} {H' : Hp} a, UU O (ds.map .dat) a → UU O ρ' a := fun a z => z.elim .inl fun z => absurd z owns_dats
    refine hbody cdv hcd A' outer s H E hr (bd_cx Sc.nd) ds r a (VL.sup (ds.map .dat) H) O _ H _ (I.more _) ⟨fun ρ' σ' H' h J => ?_, fun d ρ' σ' H' v h J rv => ?_, fun _ _ _ h _ => h.elim, fun _ _ _ h _ => h.elim, _, takes_cx, fun er ρ' σ' H' cls dd h J re => ?_⟩ pins s1 Iv
    · subst h
      exact post H' (I.ext (exH.trans J.fr.nt) J.tb) .non .non
    · subst h
      exact post H' (I.ext (exH.trans J.fr.nt) J.tb) v (rv.mono (ex_hid fun a o _ n h => ⟨fun z => n (sub (H' := H') a z), h⟩))
    · subst h
      obtain ⟨e1, e2⟩ := re
      refine post H' (I.ext (exH.trans J.fr.nt) J.tb) cls dd ⟨e1, ?_⟩
      rcases e2 with e2 | ⟨aa, fv, h7, h8, h9⟩
      · exact .inl e2
      · have ex := ex_hid (U := UU O ρ') (U' := UU O (ds.map .dat)) (H := H') (H' := H') fun a o _ n h => ⟨fun z => n (sub (H' := H') a z), h⟩
        exact .inr ⟨aa, fv, h7, ex _ _ h8, RepF.mono ex h9⟩
end
/-! ### a and b as a value, loosely -/
section
variable {X : Cx} {e a b : Expr} {rest : List Expr} {pos : Pos} {ρ : Lo} {R : D → Lo → Prop}
theorem qe_of {t : TE} (hp : PE X e t) (h : EVQ X.K t ρ R) : QE X ρ e R := fun F O σ H Q I qq pins s J => hp.run pins s σ H Q J (h F O σ H Q I qq)
theorem qe_one {op} (h : QE X ρ a R) : QE X ρ (.BoolOp op [a] pos) R := qe_of (pe_one pe_tw) h
theorem qe_and (ha : QE X ρ a fun d ρ1 => ∃ k, d = .bl k ∧ (k = false → R (.bl false) ρ1) ∧ (k = true → QE X ρ1 (.BoolOp .And (b :: rest) pos) R)) : QE X ρ (.BoolOp .And (a :: b :: rest) pos) R :=
  qe_of (pe_and pe_tw (pe_tw (X := X))) fun F O σ H Q I q => ha F O σ H _ I fun d ρ1 v H1 ⟨k, e, r1, r2⟩ o J rv => by
    subst e
    cases rv
    refine ⟨_, rfl, ?_⟩
    cases k with
    | false => rw [if_neg Bool.false_ne_true]; exact q _ ρ1 _ H1 (r1 rfl) o J (.bl _)
    | true => rw [if_pos rfl]; exact r2 rfl F O σ H1 Q J fun d ρ2 v H2 r o2 J2 => q d ρ2 v H2 r (o2.trans o) J2
end
end VL
end

section
set_option Elab.async false
set_option linter.all false
set_option maxRecDepth 100000
set_option maxHeartbeats 4000000
namespace VL
open PySem PySem.Spec PyProof.Rows L2
/-! ### == by an own __eq__ -/
/-- a class's own == -/
structure EqOwn (P : Program) (w : World) (K : PySem.W.Frag) (mg : Str → Option Value) (base : Heap) (k : Nat) (C : Addr) (A : List D → Res → Prop) : Prop where
  ex : ∃ f fd ps, FnOk P w K mg base (L2N.CX P w) k f fd ps (spV K (detS A)) ∧ PySem.W.findIn K (.ref C) "__eq__" = some (some (.ref f)) ∧ PySem.W.isFn K (.ref f) = true ∧ Binds K fd ps []
theorem EqOwn.up {P : Program} {w : World} {K : PySem.W.Frag} {mg : Str → Option Value} {base : Heap} {j k : Nat} {C : Addr} {A : List D → Res → Prop} (F : EqOwn P w K mg base j C A) (h : j ≤ k) : EqOwn P w K mg base k C A :=
  ⟨let ⟨f, fd, ps, a, b⟩ := F.ex; ⟨f, fd, ps, a.mono h, b⟩⟩
def rEqY (C : Addr) (sp : Sp) : R2 := fun x y H Q => ∃ a b dx dy fs gs, x = .ref a ∧ y = .ref b ∧ H a = some (.ins C dx fs) ∧ H b = some (.ins C dy gs) ∧ sp [x, y] H (fun v H' => (∃ b, v = .bl b) ∧ Q v H') (fun _ _ _ => False)
theorem op_eqY {X : Cx} {C f : Addr} {fd : FuncData} {ps : List Str} {sp : Sp} {k : Nat} (F : FnOk X.prog X.w X.K X.mg X.base (L2N.CX X.prog X.w) k f fd ps sp) (hr : Room k X.A) (hs : PySem.W.findIn X.K (.ref C) "__eq__" = some (some (.ref f))) (hf : PySem.W.isFn X.K (.ref f) = true) (hb : Binds X.K fd ps []) : OpR X (compareOp .Eq) (rEqY C sp) := by
  intro pins s σ H x y v u Q I rx ry hq
  obtain ⟨a, b, dx, dy, fs, gs, rfl, rfl, ha, hb', hsp⟩ := hq
  cases rx
  cases ry
  obtain ⟨mA, J, _⟩ := ins_get I.hok ha
  obtain ⟨mB, J', _⟩ := ins_get I.hok hb'
  obtain ⟨od, J, _⟩ := J.look
  obtain ⟨od', J', _⟩ := J'.look
  obtain ⟨m, hF⟩ := I.fr
  show wpAny (model X.prog X.w) X.A (richCompare .Eq (.ref a) (.ref b)) (EP X pins σ Q) X.xe s
  refine PySem.W.cmp_K (op := .Eq) (tb := .ref C) hr.units0 hF I.ok.mod.kin J J'.type (by simp [PySem.W.notFirst]) hs hf ?_
  have r2 : Vals [V.ref a, V.ref b] [Value.ref a, Value.ref b] := .cons rfl (.cons rfl .nil)
  refine wpAny_mono (run_fnX F hr hb .nil (fun u s' z => ?_) I r2 (by rw [List.append_nil]; exact hsp)) (fun v s' q => ?_) fun _ _ x => x
  · obtain ⟨_, _, _, _, _, _, _, _, _, _, _, _, z⟩ := z
    exact z.elim
  · obtain ⟨w, H', I', rz, ⟨bb, ez⟩, q⟩ := q
    subst ez
    have e : v = Value.bool bb := rz
    subst e
    exact ⟨_, H', I', rz, q⟩
theorem opd_eqY {X : Cx} {C : Addr} {A : List D → Res → Prop} {fs gs : List (Str × D)} {b : Bool} (h : A [.ins C fs, .ins C gs] (.ok (.bl b))) : OpD X.K (rEqY C (spV X.K (detS A))) (.ins C fs) (.ins C gs) (.bl b) := fun F O ρ σ H v w Q I r1 r2 q => by
  have rs : Reps X.K (hid (UU O ρ) H) [v, w] [.ins C fs, .ins C gs] := .cons r1 (.one r2)
  have q2 : ∀ H', SOk X.K F O ρ σ H' → Q (.bl b) H' := fun H' J => q _ H' J (.bl b)
  cases r1 with
  | ins h1 s1 =>
    cases r2 with
    | ins h2 s2 =>
      refine ⟨_, _, _, _, _, _, rfl, rfl, hid_ex _ _ h1, hid_ex _ _ h2, UU O ρ, _, args_ok rs I.odU I.tb, _, _, rfl, h, ?_⟩
      intro _ H' L v rv
      cases rv
      exact ⟨⟨_, rfl⟩, q2 H' (I.ext (ex_dats L) L.tb)⟩
section
variable {X : Cx} {a b : Expr} {ρ ρ1 ρ2 : Lo} {pos : Pos} {C : Addr} {A : List D → Res → Prop} {fs gs : List (Str × D)} {k : Bool} {n : Nat}
theorem c_eqY (F : EqOwn X.prog X.w X.K X.mg X.base n C A) (hr : Room n X.A) (ha : CE X ρ a (.ins C fs) ρ1) (hb : CE X ρ1 b (.ins C gs) ρ2) (h : A [.ins C fs, .ins C gs] (.ok (.bl k))) : CE X ρ (.Compare a [.Eq] [b] pos) (.bl k) ρ2 := by
  obtain ⟨f, fd, ps, h1, h2, h3, h4⟩ := F.ex
  exact c_cmp (op_eqY h1 hr h2 h3 h4) (opd_eqY h) ha hb (nomark _)
theorem t_eqY (F : EqOwn X.prog X.w X.K X.mg X.base n C A) (hr : Room n X.A) (ha : CE X ρ a (.ins C fs) ρ1) (hb : CE X ρ1 b (.ins C gs) ρ2) (h : A [.ins C fs, .ins C gs] (.ok (.bl k))) : CT X ρ (.Compare a [.Eq] [b] pos) k ρ2 := by
  obtain ⟨f, fd, ps, h1, h2, h3, h4⟩ := F.ex
  exact t_cmp (op_eqY h1 hr h2 h3 h4) (opd_eqY h) ha hb (nomark _)
end
/-- a method by its body: data in, a result out -/
theorem fn_meth {P : Program} {w : World} {K : PySem.W.Frag} {mg : Str → Option Value} {base : Heap} {k : Nat} {nm x : Str} {st : Stmt} {f : Addr} {fd : FuncData} {N ps : List Str} {A : List D → Res → Prop} (Fu : Fun K nm x st f fd) (Sc : FnScope N ps (defScope st)) (hlen : ∀ ds r, A ds r → ds.length = ps.length)
    (hbody : ∀ (cdv : Value) (A' : Around) (outer : List Env) (s : Shared) (H : Hp) (E : XK), Room k (cx P w K mg base N x st f cdv A' outer s H E).A → Bd (cx P w K mg base N x st f cdv A' outer s H E) → ∀ ds r, A ds r →
      CSs (cx P w K mg base N x st f cdv A' outer s H E) (ds.map .dat ++ List.replicate (N.length - ps.length) .un) (defBody st) { nx := fun _ => r = .ok .non, rt := fun d _ => r = .ok d, er := fun e _ => r = .error e }) : FnOk P w K mg base (L2N.CX P w) (k + 1) f fd ps (spV K (detS A)) := by
  refine Fun.okXN Fu Sc (fun vs H Q E h => ?_) (fun cdv A' outer s H vs Q E hr h => ⟨_, pss_tw, ?_⟩)
  · obtain ⟨O, ρ, I, ds, r, rfl, a, _⟩ := h
    have := I.len
    rw [List.length_map, List.length_map] at this
    rw [this]
    exact hlen ds r a
  · obtain ⟨O, ρ, I, ds, r, rfl, a, po⟩ := h
    have hl : vs.length = ps.length := by
      have := I.len
      rw [List.length_map, List.length_map] at this
      rw [this]
      exact hlen ds r a
    intro pins s1 Iv
    rw [start_eq hl] at Iv
    have post := po rfl
    have exH : ExN H (VL.sup (ds.map .dat) H) := fun a o _ h => hid_of owns_dats h
    have sub : ∀ {ρ' : Lo} {H' : Hp} a, UU O (ds.map .dat) a → UU O ρ' a := fun a z => z.elim .inl fun z => absurd z owns_dats
    refine hbody cdv A' outer s H E hr (bd_cx Sc.nd) ds r a (VL.sup (ds.map .dat) H) O _ H _ (I.more _) ⟨fun ρ' σ' H' h J => ?_, fun d ρ' σ' H' v h J rv => ?_, fun _ _ _ h _ => h.elim, fun _ _ _ h _ => h.elim, _, takes_cx, fun er ρ' σ' H' cls dd h J re => ?_⟩ pins s1 Iv
    · subst h
      exact post H' (I.ext (exH.trans J.fr.nt) J.tb) .non .non
    · subst h
      exact post H' (I.ext (exH.trans J.fr.nt) J.tb) v (rv.mono (ex_hid fun a o _ n h => ⟨fun z => n (sub (H' := H') a z), h⟩))
    · subst h
      obtain ⟨e1, e2⟩ := re
      refine post H' (I.ext (exH.trans J.fr.nt) J.tb) cls dd ⟨e1, ?_⟩
      rcases e2 with e2 | ⟨aa, fv, h7, h8, h9⟩
      · exact .inl e2
      · have ex := ex_hid (U := UU O ρ') (U' := UU O (ds.map .dat)) (H := H') (H' := H') fun a o _ n h => ⟨fun z => n (sub (H' := H') a z), h⟩
        exact .inr ⟨aa, fv, h7, ex _ _ h8, RepF.mono ex h9⟩
/-! ### lists of truths compared -/
theorem pydsB : ∀ xs : List Bool, pyds (xs.map D.bl) = xs.map PyData.bool
  | [] => rfl
  | x :: xs => by
    show pyd (.bl x) :: pyds (xs.map D.bl) = _
    rw [pydsB xs]
    rfl
theorem layB : ∀ xs : List Bool, PyData.canLayAll0 (xs.map PyData.bool) = true
  | [] => by simp only [List.map_nil, PyData.canLayAll0]
  | x :: xs => by
    simp only [List.map_cons, PyData.canLayAll0, PyData.canLay0, Bool.true_and]
    exact layB xs
theorem depB : ∀ xs : List Bool, PyData.depthAll (xs.map PyData.bool) = 0
  | [] => by simp only [List.map_nil, PyData.depthAll]
  | x :: xs => by
    simp only [List.map_cons, PyData.depthAll, PyData.depth]
    rw [depB xs]
    rfl
theorem eqvB : ∀ xs ys : List Bool, PyData.eqvAll (xs.map PyData.bool) (ys.map PyData.bool) = decide (xs = ys)
  | [], [] => by simp only [List.map_nil, PyData.eqvAll]; rfl
  | [], y :: ys => by simp [PyData.eqvAll]
  | x :: xs, [] => by simp [PyData.eqvAll]
  | x :: xs, y :: ys => by
    simp only [List.map_cons, PyData.eqvAll, PyData.eqv]
    rw [eqvB xs ys]
    by_cases h : x = y <;> by_cases h2 : xs = ys <;> simp [h, h2]
theorem shapedB (xs : List Bool) : SeqAt.shaped (pyd (.lst (xs.map D.bl))) = true := by
  unfold SeqAt.shaped
  simp only [pyd, PyData.canLay0, PyData.depth]
  rw [pydsB, layB, depB]
  rfl
theorem eqDs_bls : ∀ xs : List Bool, eqDs (xs.map D.bl) = true
  | [] => rfl
  | x :: xs => by
    show (eqD (.bl x) && eqDs (xs.map D.bl)) = true
    rw [eqDs_bls xs]
    rfl
theorem eqvLB (xs ys : List Bool) : PyData.eqv (pyd (.lst (xs.map D.bl))) (pyd (.lst (ys.map D.bl))) = decide (xs = ys) := by
  simp only [pyd, PyData.eqv]
  rw [pydsB, pydsB, eqvB]
section
variable {X : Cx} {a b : Expr} {ρ ρ1 ρ2 : Lo} {pos : Pos} {xs ys : List Bool} {i j : Bool}
theorem t_neLB (hu : X.A.units + 64 < cLine) (ha : CE X ρ a (.lst (xs.map D.bl)) ρ1) (hb : CE X ρ1 b (.lst (ys.map D.bl)) ρ2) : CT X ρ (.Compare a [.NotEq] [b] pos) (!decide (xs = ys)) ρ2 :=
  CT.eq (t_neD hu ha hb (eqDs_bls xs) (eqDs_bls ys) (shapedB xs) (shapedB ys)) (by rw [eqvLB])
theorem t_eqLB (hu : X.A.units + 64 < cLine) (ha : CE X ρ a (.lst (xs.map D.bl)) ρ1) (hb : CE X ρ1 b (.lst (ys.map D.bl)) ρ2) : CT X ρ (.Compare a [.Eq] [b] pos) (decide (xs = ys)) ρ2 :=
  CT.eq (t_eqD hu ha hb (eqDs_bls xs) (eqDs_bls ys) (shapedB xs) (shapedB ys)) (by rw [eqvLB])
theorem c_eqLB (hu : X.A.units + 64 < cLine) (ha : CE X ρ a (.lst (xs.map D.bl)) ρ1) (hb : CE X ρ1 b (.lst (ys.map D.bl)) ρ2) : CE X ρ (.Compare a [.Eq] [b] pos) (.bl (decide (xs = ys))) ρ2 :=
  CE.eq (c_eqD hu ha hb (eqDs_bls xs) (eqDs_bls ys) (shapedB xs) (shapedB ys)) (by rw [eqvLB])
theorem c_isB (ha : CE X ρ a (.bl i) ρ1) (hb : CE X ρ1 b (.bl j) ρ2) : CE X ρ (.Compare a [.Is] [b] pos) (.bl (decide (i = j))) ρ2 :=
  c_cmp op_is_bl (fun F O ρ σ H v w Q I r1 r2 q => by cases r1; cases r2; exact ⟨_, _, rfl, rfl, q _ _ I (.bl _)⟩) ha hb (nomark _)
end
end VL
end

section
set_option Elab.async false
set_option linter.all false
set_option maxRecDepth 100000
set_option maxHeartbeats 4000000
namespace KK
open PySem PySem.Spec PyProof.Rows L2 VL
def topS (i : Nat) : Stmt := PySem.Challenge.pw_paidornot_k77_whole_rules_by_one_rest.main.body.getD i (.Pass ⟨0, 0, 0, 0⟩)
def c_MOST_COIN : Int := 10 ^ 6
def c_MOST_LEAST : Int := 2000
def c_MOST_COINS : Int := 700
def c_MOST_MODULUS : Int := 600
def c_MOST_SIZE : Int := 10 ^ 30
/-- the built-ins, the numbers of the modules -/
structure Blt (mg : Str → Option Value) : Prop where
  ValueError : mg "ValueError" = none
  abs : mg "abs" = none
  all : mg "all" = none
  any : mg "any" = none
  bool : mg "bool" = none
  enumerate : mg "enumerate" = none
  int : mg "int" = none
  isinstance : mg "isinstance" = none
  len : mg "len" = none
  list : mg "list" = none
  min : mg "min" = none
  range : mg "range" = none
  repr : mg "repr" = none
  sorted : mg "sorted" = none
  sum : mg "sum" = none
  tuple : mg "tuple" = none
  MOST_COIN : ∃ t, mg "MOST_COIN" = some (.int 1000000 t)
  MOST_LEAST : ∃ t, mg "MOST_LEAST" = some (.int 2000 t)
  MOST_COINS : ∃ t, mg "MOST_COINS" = some (.int 700 t)
  MOST_MODULUS : ∃ t, mg "MOST_MODULUS" = some (.int 600 t)
  MOST_SIZE : ∃ t, mg "MOST_SIZE" = some (.int c_MOST_SIZE t)
end KK
end

section
set_option Elab.async false
set_option linter.all false
set_option maxRecDepth 100000
set_option maxHeartbeats 4000000
namespace KK
open PySem PySem.Spec PyProof.Rows L2 VL
abbrev s_is_integer : Stmt := topS 1
abbrev N_is_integer : List Str := ["thing"]
theorem sc_is_integer : FnScope N_is_integer ["thing"] (defScope s_is_integer) := ⟨rfl, rfl, rfl, by decide +kernel, rfl, by decide +kernel, by decide +kernel⟩
variable {P : Program} {w : World} {K : PySem.W.Frag} {mg : Str → Option Value} {base : Heap} {f aCoinError aBadNumber aNoSystem aBadCoins aTooMany aSystem : Addr} {fd : FuncData}
def A_is_integer (ds : List D) (r : Res) : Prop := ∃ d, ds = [d] ∧ plD d = true ∧ r = .ok (.bl (intQ d))
theorem ok_is_integer (T : Blt mg) (Fu : Fun K "is_integer" "is_integer" s_is_integer f fd) (hb : Binds K fd ["thing"] []) (hm : mg "is_integer" = some (.ref f)) : FnV P w K mg base 1 "is_integer" (detS A_is_integer) := by
  refine fn_pure (k := 0) Fu sc_is_integer hb hm (fun ds r ⟨d, e, _⟩ => by subst e; rfl) fun cdv A' outer s H E hr B ds r ⟨d, e, hp, er⟩ => ?_
  subst e er
  refine css_ret (c_and (c_isi T.isinstance (c_var 0) (c_bty "int" T.int) hp rfl) (fun _ => (c_one (c_not (c_isi T.isinstance (c_var 0) (c_bty "bool" T.bool) hp rfl))))) ?_
  cases d <;> first | rfl | cases hp
end KK
end

section
set_option Elab.async false
set_option linter.all false
set_option maxRecDepth 100000
set_option maxHeartbeats 4000000
namespace KK
open PySem PySem.Spec PyProof.Rows L2 VL
abbrev s_is_within : Stmt := topS 2
abbrev N_is_within : List Str := ["thing", "low", "high"]
theorem sc_is_within : FnScope N_is_within ["thing", "low", "high"] (defScope s_is_within) := ⟨rfl, rfl, rfl, by decide +kernel, rfl, by decide +kernel, by decide +kernel⟩
variable {P : Program} {w : World} {K : PySem.W.Frag} {mg : Str → Option Value} {base : Heap} {f aCoinError aBadNumber aNoSystem aBadCoins aTooMany aSystem : Addr} {fd : FuncData}
def A_is_within (ds : List D) (r : Res) : Prop := ∃ d lo hi, ds = [d, .int lo, .int hi] ∧ plD d = true ∧ r = .ok (.bl (within d lo hi))
theorem ok_is_within (T : Blt mg) (F_is_integer : FnV P w K mg base 1 "is_integer" (detS A_is_integer)) (Fu : Fun K "is_within" "is_within" s_is_within f fd) (hb : Binds K fd ["thing", "low", "high"] []) (hm : mg "is_within" = some (.ref f)) : FnV P w K mg base 2 "is_within" (detS A_is_within) := by
  refine fn_pure (k := 1) Fu sc_is_within hb hm (fun ds r ⟨d, lo, hi, e, _⟩ => by subst e; rfl) fun cdv A' outer s H E hr B ds r ⟨d, lo, hi, e, hp, er⟩ => ?_
  subst e er
  cases hd : intQ d with
  | true =>
    obtain ⟨i, rfl⟩ : ∃ i, d = .int i := by cases d <;> first | exact ⟨_, rfl⟩ | cases hd
    refine css_ret (c_and (c_call F_is_integer (hr.mono (by decide)) (d_cons (c_var 0) d_nil) (fun R h => ⟨_, _, rfl, ⟨_, rfl, hp, rfl⟩, h⟩)) (fun _ => (c_one (c_leLe (c_var 1) (c_var 0) (fun _ => (c_var 2)))))) ?_
    rfl
  | false =>
    refine css_ret (c_and (l := false) (c_call F_is_integer (hr.mono (by decide)) (d_cons (c_var 0) d_nil) (fun R h => ⟨_, _, rfl, ⟨_, rfl, hp, rfl⟩, h⟩)) (fun h => ?_)) ?_
    · rw [hd] at h; cases h
    · cases d <;> first | rfl | cases hd
end KK
end

section
set_option Elab.async false
set_option linter.all false
set_option maxRecDepth 100000
set_option maxHeartbeats 4000000
namespace KK
open PySem PySem.Spec PyProof.Rows L2 VL
abbrev s_common : Stmt := topS 3
abbrev N_common : List Str := ["one", "other"]
theorem sc_common : FnScope N_common ["one", "other"] (defScope s_common) := ⟨rfl, rfl, rfl, by decide +kernel, rfl, by decide +kernel, by decide +kernel⟩
variable {P : Program} {w : World} {K : PySem.W.Frag} {mg : Str → Option Value} {base : Heap} {f aCoinError aBadNumber aNoSystem aBadCoins aTooMany aSystem : Addr} {fd : FuncData}
def A_common (ds : List D) (r : Res) : Prop := ∃ a b : Int, ds = [.int a, .int b] ∧ r = .ok (.int (Int.gcd a b))
theorem abs_gcd (a b : Int) : Int.gcd (if a < 0 then -a else a) (if b < 0 then -b else b) = Int.gcd a b := by
  have h : ∀ x : Int, (if x < 0 then -x else x).natAbs = x.natAbs := fun x => by split <;> omega
  unfold Int.gcd
  rw [h, h]
theorem gcd_mod {x y : Int} (hx : 0 ≤ x) (hy : 0 ≤ y) : Int.gcd y (x % y) = Int.gcd x y := by
  obtain ⟨m, rfl⟩ := Int.eq_ofNat_of_zero_le hx
  obtain ⟨n, rfl⟩ := Int.eq_ofNat_of_zero_le hy
  show Nat.gcd n (m % n) = Nat.gcd m n
  rw [Nat.gcd_comm m n, Nat.gcd_rec n m, Nat.gcd_comm]
theorem ok_common (T : Blt mg) (Fu : Fun K "common" "common" s_common f fd) (hb : Binds K fd ["one", "other"] []) (hm : mg "common" = some (.ref f)) : FnV P w K mg base 1 "common" (detS A_common) := by
  refine fn_pure (k := 0) Fu sc_common hb hm (fun ds r ⟨a, b, e, _⟩ => by subst e; rfl) fun cdv A' outer s H E hr B ds r ⟨a, b, e, er⟩ => ?_
  subst e er
  refine css_par 0 1 B (d_cons (c_abs T.abs (c_var 0)) (d_cons (c_abs T.abs (c_var 1)) d_nil)) ?_
  refine css_while B (fun m ρ => ∃ x y : Int, 0 ≤ x ∧ 0 ≤ y ∧ y.toNat = m ∧ Int.gcd x y = Int.gcd a b ∧ ρ = [.dat (.int x), .dat (.int y)]) (if b < 0 then -b else b).toNat ⟨_, _, by split <;> omega, by split <;> omega, rfl, abs_gcd a b, rfl⟩ fun m ρ ⟨x, y, hx, hy, em, hg, e⟩ => ?_
  subst e
  refine ⟨_, _, t_gt (c_var 1) c_int, fun h => ?_, fun h => ?_⟩
  · have h : 0 < y := of_decide_eq_true h
    refine css_par 0 1 B (d_cons (c_var 1) (d_cons (c_mod (c_var 0) (c_var 1) h) d_nil)) (css_nil ?_)
    have h1 := Int.emod_nonneg x (show y ≠ 0 by omega)
    have h2 := Int.emod_lt_of_pos x h
    exact ⟨(x % y).toNat, by omega, y, x % y, hy, h1, rfl, by rw [← hg]; exact gcd_mod hx hy, rfl⟩
  · have h : ¬ 0 < y := of_decide_eq_false h
    have : y = 0 := by omega
    subst this
    refine css_ret (c_var 0) ?_
    rw [← hg, Int.gcd_zero_right]
    show Except.ok (D.int _) = Except.ok (D.int _)
    congr 2
    omega
end KK
end

section
set_option Elab.async false
set_option linter.all false
set_option maxRecDepth 100000
set_option maxHeartbeats 4000000
namespace KK
open PySem PySem.Spec PyProof.Rows L2 VL
abbrev s_common_of : Stmt := topS 4
abbrev N_common_of : List Str := ["some", "found", "item"]
theorem sc_common_of : FnScope N_common_of ["some"] (defScope s_common_of) := ⟨rfl, rfl, rfl, by decide +kernel, rfl, by decide +kernel, by decide +kernel⟩
variable {P : Program} {w : World} {K : PySem.W.Frag} {mg : Str → Option Value} {base : Heap} {f aCoinError aBadNumber aNoSystem aBadCoins aTooMany aSystem : Addr} {fd : FuncData}
def gcdL (xs : List Int) : Nat := xs.foldl (fun g x => Int.gcd (g : Int) x) 0
def A_common_of (ds : List D) (r : Res) : Prop := ∃ xs : List Int, (ds = [.tup (xs.map D.int)] ∨ ds = [.lst (xs.map D.int)]) ∧ r = .ok (.int (gcdL xs))
theorem gcdL_take {xs : List Int} {i : Nat} {x : Int} (h : xs[i]? = some x) : gcdL (xs.take (i + 1)) = Int.gcd (gcdL (xs.take i) : Nat) x := by
  unfold gcdL
  rw [List.take_succ, h, Option.toList_some, List.foldl_append]
  rfl
theorem ok_common_of (T : Blt mg) (F_common : FnV P w K mg base 1 "common" (detS A_common)) (Fu : Fun K "common_of" "common_of" s_common_of f fd) (hb : Binds K fd ["some"] []) (hm : mg "common_of" = some (.ref f)) : FnV P w K mg base 2 "common_of" (detS A_common_of) := by
  refine fn_pure (k := 1) Fu sc_common_of hb hm (fun ds r ⟨a, e, _⟩ => by rcases e with e | e <;> (subst e; rfl)) fun cdv A' outer s H E hr B ds r ⟨xs, e, er⟩ => ?_
  subst er
  have body : ∀ (d0 : D), (∀ tp ip : Pos, CI (cx P w K mg base N_common_of "common_of" s_common_of f cdv A' outer s H E) [.dat d0, .dat (.int 0), .un] (.Name "item" tp) (.Name "some" ip) (xs.map D.int) [.dat d0, .dat (.int 0), .un]) →
      CSs (cx P w K mg base N_common_of "common_of" s_common_of f cdv A' outer s H E) [.dat d0, .un, .un] (defBody s_common_of) { nx := fun _ => (Except.ok (D.int (gcdL xs)) : Res) = .ok D.non, rt := fun d _ => (Except.ok (D.int (gcdL xs)) : Res) = .ok d, er := fun e _ => (Except.ok (D.int (gcdL xs)) : Res) = .error e } := fun d0 hci => by
    refine css_asg 1 B c_int ?_
    refine css_for (T := .nm 2) B (hci _ _) (tg_nm 2 B.nd) (fun i ρ => ∃ a, ρ = [.dat d0, .dat (.int (gcdL (xs.take i))), a]) ⟨_, rfl⟩ (fun i d ρ hd hJ => ?_) (fun ρ hJ => ?_)
    · obtain ⟨a, rfl⟩ := hJ
      rw [List.getElem?_map] at hd
      cases hx : xs[i]? with
      | none => rw [hx] at hd; cases hd
      | some x =>
        rw [hx] at hd
        cases hd
        refine ⟨_, .nm, ?_⟩
        refine css_asg 1 B (c_call F_common (hr.mono (by decide)) (d_cons (c_var 1) (d_cons (c_var 2) d_nil)) (fun R h => ⟨_, _, rfl, ⟨_, _, rfl, rfl⟩, h⟩)) (css_nil ⟨.dat (.int x), ?_⟩)
        rw [gcdL_take hx]
        rfl
    · obtain ⟨a, rfl⟩ := hJ
      rw [List.length_map, List.take_length]
      exact css_ret (c_var 1) rfl
  rcases e with e | e
  · subst e
    exact body _ fun _ _ => ci_tup (c_var 0)
  · subst e
    exact body _ fun _ _ => ci_list (c_var 0)
end KK
end

section
set_option Elab.async false
set_option linter.all false
set_option maxRecDepth 100000
set_option maxHeartbeats 4000000
namespace KK
open PySem PySem.Spec PyProof.Rows L2 VL
/-! ### what systems hold, as computed -/
def oD : Option Int → D
  | none => .non
  | some x => .int x
/-- one turn: from h to t by a coin -/
def stepU (c : Int) (L : List (Option Int)) (h t : Nat) : List (Option Int) :=
  match L.getD h none, L.getD t none with
  | none, _ => L
  | some x, none => L.set t (some (x + c))
  | some x, some y => if x + c < y then L.set t (some (x + c)) else L
def turnsU (c : Int) (s m : Nat) (p : List (Option Int) × Nat) : Nat → List (Option Int) × Nat
  | 0 => p
  | k + 1 => (stepU c (turnsU c s m p k).1 (turnsU c s m p k).2 (((turnsU c s m p k).2 + s) % m), ((turnsU c s m p k).2 + s) % m)
def startsU (c : Int) (s m n : Nat) (L : List (Option Int)) : Nat → List (Option Int)
  | 0 => L
  | k + 1 => (turnsU c s m (startsU c s m n L k, k) n).1
def roundU (c : Int) (s m : Nat) (L : List (Option Int)) : List (Option Int) := startsU c s m (2 * (m / Nat.gcd s m)) L (Nat.gcd s m)
theorem stepU_len (c : Int) (L : List (Option Int)) (h t : Nat) : (stepU c L h t).length = L.length := by
  unfold stepU
  split
  · rfl
  · rw [List.length_set]
  · split
    · rw [List.length_set]
    · rfl
theorem turnsU_len (c : Int) (s m : Nat) (p : List (Option Int) × Nat) : ∀ k, (turnsU c s m p k).1.length = p.1.length
  | 0 => rfl
  | k + 1 => (stepU_len ..).trans (turnsU_len c s m p k)
theorem startsU_len (c : Int) (s m n : Nat) (L : List (Option Int)) : ∀ k, (startsU c s m n L k).length = L.length
  | 0 => rfl
  | k + 1 => (turnsU_len ..).trans (startsU_len c s m n L k)
theorem roundU_len (c : Int) (s m : Nat) (L : List (Option Int)) : (roundU c s m L).length = L.length := startsU_len ..
theorem turnsU_lt {c : Int} {s m : Nat} {p : List (Option Int) × Nat} (hm : 0 < m) (hp : p.2 < m) : ∀ k, (turnsU c s m p k).2 < m
  | 0 => hp
  | k + 1 => Nat.mod_lt _ hm
/-- the needed coins and the table, coin by coin -/
def builtU (m : Nat) (s : List Int × List (Option Int)) (c : Int) : List Int × List (Option Int) :=
  match s.2.getD (c % m).toNat none with
  | none => (s.1 ++ [c], roundU c (c % m).toNat m s.2)
  | some h => if c < h then (s.1 ++ [c], roundU c (c % m).toNat m s.2) else s
def startT (m : Nat) : List (Option Int) := some 0 :: List.replicate (m - 1) none
/-- of coins, ascending: the needed ones and the table -/
def builtL : List Int → List Int × List (Option Int)
  | [] => ([], [])
  | m :: cs => cs.foldl (builtU m.toNat) ([m], startT m.toNat)
theorem builtU_len (m : Nat) (s : List Int × List (Option Int)) (c : Int) : (builtU m s c).2.length = s.2.length := by
  unfold builtU
  split
  · exact roundU_len ..
  · split
    · exact roundU_len ..
    · rfl
theorem builtF_len (m : Nat) : ∀ (cs : List Int) (s : List Int × List (Option Int)), (cs.foldl (builtU m) s).2.length = s.2.length
  | [], _ => rfl
  | c :: cs, s => (builtF_len m cs _).trans (builtU_len m s c)
/-- what coins must be -/
def okC (cs : List Int) : Bool := decide (1 ≤ cs.length) && decide (cs.length ≤ 700) && cs.all (fun c => decide (1 ≤ c) && decide (c ≤ 1000000)) && decide (cs.Nodup) && decide (minI cs ≤ 2000) && decide (cs.foldl (fun (g : Nat) x => Int.gcd (g : Int) x) 0 = 1)
theorem okC_of {cs : List Int} (h : okC cs = true) : 1 ≤ cs.length ∧ cs.length ≤ 700 ∧ (∀ c ∈ cs, 1 ≤ c ∧ c ≤ 1000000) ∧ cs.Nodup ∧ minI cs ≤ 2000 ∧ cs.foldl (fun (g : Nat) x => Int.gcd (g : Int) x) 0 = 1 := by
  unfold okC at h
  simp only [Bool.and_eq_true, decide_eq_true_eq, List.all_eq_true] at h
  obtain ⟨⟨⟨⟨⟨h1, h2⟩, h3⟩, h4⟩, h5⟩, h6⟩ := h
  exact ⟨h1, h2, h3, h4, h5, h6⟩
/-- a system: its coins as told -/
def nd (cs : List Int) : List Int := (builtL (sortI cs)).1
def rs (cs : List Int) : List (Option Int) := (builtL (sortI cs)).2
def sysF (cs : List Int) : List (Str × D) := [("coins", .tup ((sortI cs).map D.int)), ("needed_coins", .tup ((nd cs).map D.int)), ("rests", .tup ((rs cs).map oD))]
def sysD (C : Addr) (cs : List Int) : D := .ins C (sysF cs)
/-- the class -/
structure SysC (K : PySem.W.Frag) (mg : Str → Option Value) (C : Addr) : Prop where
  o : OwnC K C
  n1 : NoAttr K C "coins"
  n2 : NoAttr K C "needed_coins"
  n3 : NoAttr K C "rests"
  g : mg "System" = some (.ref C)
def A_System_init (ds : List D) (fs : List (Str × D)) : Prop := ∃ cs : List Int, ds = [.tup (cs.map D.int)] ∧ okC cs = true ∧ fs = sysF cs
/-- the class, and that it makes systems -/
structure MkS (P : Program) (w : World) (K : PySem.W.Frag) (mg : Str → Option Value) (base : Heap) (k : Nat) (C : Addr) : Prop where
  s : SysC K mg C
  ex : ∃ f fd, Mk K C f ∧ VL.FnOk P w K mg base (L2N.CX P w) k f fd ["self", "coins"] (spIni K C A_System_init) ∧ L2.Binds K fd ["self", "coins"] []
theorem c_sys {X : Cx} {e : Expr} {ρ ρ1 : Lo} {pos p : Pos} {k : Nat} {C : Addr} {cs : List Int} (M : MkS X.prog X.w X.K X.mg X.base k C) (hr : VL.Room (k + 1) X.A) (he : CE X ρ e (.tup (cs.map D.int)) ρ1) (ho : okC cs = true) (hg : Gl X "System" := by rfl)
    (hs : starEach (e :: []) X.env = (false, eval e X.env) :: starEach [] X.env := by rfl) (hpl : (backTo pos (starEach [] X.env)).any (·.1) = false := by rfl) : CE X ρ (.Call (.Name "System" p) [e] [] pos) (sysD C cs) ρ1 := by
  obtain ⟨f, fd, h1, h2, h3⟩ := M.ex
  exact c_make h1 h2 hr M.s.g h3 (d_cons he d_nil hs) ⟨cs, rfl, ho, rfl⟩ hg (by decide) hs hpl
/-- ascending right coins: the first -/
theorem sort_head {cs : List Int} (h : okC cs = true) : ∃ (m : Nat) (rest : List Int), sortI cs = (m : Int) :: rest ∧ 1 ≤ m ∧ m ≤ 2000 ∧ rest.length < 700 := by
  obtain ⟨h1, h2, h3, h4, h5, h6⟩ := okC_of h
  have hl := sortI_len cs
  have hs := sortI_srt cs
  cases e : sortI cs with
  | nil => rw [e] at hl; simp at hl; omega
  | cons x rest =>
    rw [e] at hl hs
    rw [List.pairwise_cons] at hs
    have hx : x ∈ cs := sortI_mem.mp (by rw [e]; exact List.mem_cons_self)
    have hm : x = minI cs := minI_uniq hx fun y hy => by
      have : y ∈ x :: rest := by rw [← e]; exact sortI_mem.mpr hy
      rcases List.mem_cons.mp this with rfl | hy2
      · exact Int.le_refl _
      · exact hs.1 y hy2
    obtain ⟨a, b⟩ := h3 x hx
    rw [List.length_cons] at hl
    exact ⟨x.toNat, rest, by rw [Int.toNat_of_nonneg (by omega)], by omega, by omega, by omega⟩
theorem builtF_mem (m : Nat) : ∀ (cs : List Int) (s : List Int × List (Option Int)) (c : Int), c ∈ (cs.foldl (builtU m) s).1 → c ∈ s.1 ∨ c ∈ cs
  | [], s, c, h => .inl h
  | x :: cs, s, c, h => by
    rcases builtF_mem m cs _ c h with h | h
    · have : c ∈ s.1 ++ [x] := by
        unfold builtU at h
        split at h
        · exact h
        · split at h
          · exact h
          · exact List.mem_append_left _ h
      rcases List.mem_append.mp this with h | h
      · exact .inl h
      · exact .inr (by rw [List.mem_singleton.mp h]; exact List.mem_cons_self)
    · exact .inr (List.mem_cons_of_mem _ h)
theorem builtF_sub (m : Nat) : ∀ (cs : List Int) (s : List Int × List (Option Int)), ∃ l, (cs.foldl (builtU m) s).1 = s.1 ++ l
  | [], s => ⟨[], (List.append_nil _).symm⟩
  | x :: cs, s => by
    obtain ⟨l, e⟩ := builtF_sub m cs (builtU m s x)
    have : ∃ l', (builtU m s x).1 = s.1 ++ l' := by
      unfold builtU
      split
      · exact ⟨[x], rfl⟩
      · split
        · exact ⟨[x], rfl⟩
        · exact ⟨[], (List.append_nil _).symm⟩
    obtain ⟨l', e'⟩ := this
    exact ⟨l' ++ l, by rw [List.foldl_cons, e, e', List.append_assoc]⟩
theorem nd_ok {cs : List Int} (h : okC cs = true) : (∀ c ∈ nd cs, c ∈ cs) ∧ 1 ≤ (nd cs).length ∧ (nd cs).length ≤ 700 ∧ 1 ≤ (rs cs).length ∧ (rs cs).length ≤ 2000 := by
  obtain ⟨m, rest, e, h1, h2, h3⟩ := sort_head h
  have en : nd cs = (rest.foldl (builtU m) ([(m : Int)], startT m)).1 := by unfold nd; rw [e]; rfl
  have er : rs cs = (rest.foldl (builtU m) ([(m : Int)], startT m)).2 := by unfold rs; rw [e]; rfl
  have hm : ∀ c ∈ nd cs, c ∈ cs := fun c hc => by
    rw [en] at hc
    refine sortI_mem.mp ?_
    rw [e]
    rcases builtF_mem m rest _ c hc with h | h
    · rw [List.mem_singleton.mp h]; exact List.mem_cons_self
    · exact List.mem_cons_of_mem _ h
  refine ⟨hm, ?_, ?_, ?_, ?_⟩
  · obtain ⟨l, q⟩ := builtF_sub m rest ([(m : Int)], startT m)
    rw [en, q, List.length_append]
    exact Nat.le_add_right 1 _
  · have key : ∀ (cs : List Int) (s : List Int × List (Option Int)), (cs.foldl (builtU m) s).1.length ≤ s.1.length + cs.length := fun cs => by
      induction cs with
      | nil => intro s; exact Nat.le_refl _
      | cons c cs ih =>
        intro s
        have h1 := ih (builtU m s c)
        have h2 : (builtU m s c).1.length ≤ s.1.length + 1 := by
          unfold builtU
          split
          · rw [List.length_append]; exact Nat.le_refl _
          · split
            · rw [List.length_append]; exact Nat.le_refl _
            · omega
        rw [List.foldl_cons, List.length_cons]
        omega
    have := key rest ([(m : Int)], startT m)
    rw [en]
    have e1 : ([(m : Int)], startT m).1.length = 1 := rfl
    omega
  · rw [er, builtF_len]; unfold startT; rw [List.length_cons]; omega
  · rw [er, builtF_len]; unfold startT; rw [List.length_cons, List.length_replicate]; omega
/-- the sum that counts pay -/
def dotI (xs ys : List Int) : Int := (List.zipWith (fun x y => x * y) xs ys).sum
theorem zipD_map (xs ys : List Int) : zipD (xs.map D.int) (ys.map D.int) = List.zipWith (fun x y => D.tup [.int x, .int y]) xs ys := by
  unfold zipD
  rw [List.zipWith_map]
theorem zipD_dot (f : D → D) (g : Int → Int → Int) (h : ∀ x y, f (.tup [.int x, .int y]) = .int (g x y)) (xs ys : List Int) : (zipD (xs.map D.int) (ys.map D.int)).map f = (List.zipWith g xs ys).map D.int := by
  rw [zipD_map, List.map_zipWith, List.map_zipWith]
  congr 1
  funext x y
  exact h x y
/-- small numbers -/
def Sm (c : Int) : Prop := -(2 ^ 64) < c ∧ c < 2 ^ 64
theorem nd_sm {cs : List Int} (h : okC cs = true) : ∀ c ∈ nd cs, 1 ≤ c ∧ c ≤ 1000000 := fun c hc => (okC_of h).2.2.1 c ((nd_ok h).1 c hc)
/-- whether a sum is payable, by the table -/
def paysB (cs : List Int) (n : Int) : Bool := decide (0 ≤ n) && match (rs cs).getD (n % ((rs cs).length : Nat)).toNat none with
  | some x => decide (x ≤ n)
  | none => false
def fullT (cs : List Int) : Bool := (rs cs).all Option.isSome
theorem full_at {L : List (Option Int)} {i : Nat} (h : L.all Option.isSome = true) (hi : i < L.length) : ∃ x, L.getD i none = some x := by
  rw [List.getD_eq_getElem?_getD, List.getElem?_eq_getElem hi, Option.getD_some]
  exact Option.isSome_iff_exists.mp (List.all_eq_true.mp h _ (List.getElem_mem hi))
end KK
end

section
set_option Elab.async false
set_option linter.all false
set_option maxRecDepth 100000
set_option maxHeartbeats 4000000
namespace KK
open PySem PySem.Spec PyProof.Rows L2 VL
abbrev s_round_up : Stmt := topS 15
abbrev N_round_up : List Str := ["found", "coin", "step", "modulus", "rounds", "start", "here", "turn", "there"]
theorem sc_round_up : FnScope N_round_up ["found", "coin", "step", "modulus"] (defScope s_round_up) := ⟨rfl, rfl, rfl, by decide +kernel, rfl, by decide +kernel, by decide +kernel⟩
variable {P : Program} {w : World} {K : PySem.W.Frag} {mg : Str → Option Value} {base : Heap} {f aCoinError aBadNumber aNoSystem aBadCoins aTooMany aSystem : Addr} {fd : FuncData}
def A_round_up (cs ds : List D) (R : Res → List D → Prop) : Prop := ∃ (L : List (Option Int)) (c : Int) (s m : Nat), cs = L.map oD ∧ ds = [.int c, .int (s : Nat), .int (m : Nat)] ∧ L.length = m ∧ s < m ∧ m < 10000 ∧ R (.ok .non) ((roundU c s m L).map oD)
theorem at_o {L : List (Option Int)} {h : Nat} (hl : h < L.length) : atI (L.map oD) (h : Nat) = some (oD (L.getD h none)) := by
  refine atI_i rfl ?_
  rw [List.getElem?_map, List.getD_eq_getElem?_getD, List.getElem?_eq_getElem hl]
  rfl
theorem isNon_o (o : Option Int) : isNon (oD o) = o.isNone := by cases o <;> rfl
theorem ixN_at {n h : Nat} (hl : h < n) : ixN n (h : Nat) = some h := by
  unfold ixN
  rw [if_pos (by omega), if_pos (by omega)]
  rfl
theorem ok_round_up (T : Blt mg) (F_common_of : FnV P w K mg base 2 "common_of" (detS A_common_of)) (Fu : Fun K "round_up" "round_up" s_round_up f fd) (hb : Binds K fd ["found", "coin", "step", "modulus"] []) (hm : mg "round_up" = some (.ref f)) : FnV P w K mg base 3 "round_up" (mutS A_round_up) := by
  refine fn_mut (k := 2) (fun cs ds R R' h ⟨L, c, s, m, a, b, d, e, g, r⟩ => ⟨L, c, s, m, a, b, d, e, g, h _ _ r⟩) Fu sc_round_up hb hm (fun cs ds R ⟨L, c, s, m, a, b, _⟩ => by subst b; rfl) fun cdv A' outer s' H E hr B q cs ds R ⟨L, c, s, m, e1, e2, hl, hs, hm2, hR⟩ => ?_
  subst e1 e2
  have hg : 0 < Nat.gcd s m := Nat.gcd_pos_of_pos_right _ (by omega)
  have hg2 : Nat.gcd s m ≤ m := Nat.gcd_le_right _ (by omega)
  have hgd : m / Nat.gcd s m ≤ m := Nat.div_le_self _ _
  have eg : gcdL [(s : Int), (m : Int)] = Nat.gcd s m := by
    show Int.gcd ((Int.gcd ((0 : Nat) : Int) (s : Int) : Nat) : Int) (m : Int) = _
    rw [show ((0 : Nat) : Int) = 0 from rfl, Int.gcd_zero_left]
    rfl
  refine css_asg 4 B (c_call (d := .int (Nat.gcd s m : Nat)) F_common_of (hr.mono (by decide)) (d_cons (CN.ce (n_lst (d_cons (c_var 2) (d_cons (c_var 3) d_nil)) (sz (by simp)))) d_nil) (fun R h => ⟨_, _, rfl, ⟨[(s : Int), (m : Int)], .inr rfl, by rw [eg]⟩, h⟩)) ?_
  refine css_for (T := .nm 5) B (ci_range1 T.range (c_var 4) (by omega)) (tg_nm 5 B.nd) (fun i ρ => ∃ a b d e, ρ = [.mut q ((startsU c s m (2 * (m / Nat.gcd s m)) L i).map oD), .dat (.int c), .dat (.int (s : Nat)), .dat (.int (m : Nat)), .dat (.int (Nat.gcd s m : Nat)), a, b, d, e]) ⟨_, _, _, _, rfl⟩ (fun i d ρ hd hJ => ?_) (fun ρ hJ => ?_)
  · obtain ⟨hi, rfl⟩ := rangeD_inv hd
    obtain ⟨a, b, d, e, rfl⟩ := hJ
    refine ⟨_, .nm, ?_⟩
    have hi : i < Nat.gcd s m := by omega
    have hi0 : (0 : Int) + (i : Nat) = ((i : Nat) : Int) := by omega
    rw [hi0]
    refine css_asg 6 B (c_var 5) ?_
    have hdv : ((m : Int) / ((Nat.gcd s m : Nat) : Int)) = ((m / Nat.gcd s m : Nat) : Int) := rfl
    generalize eDD : m / Nat.gcd s m = DD at hdv hgd hR ⊢
    refine css_for (T := .nm 7) B (ci_range1 T.range (c_mul c_int (c_div (c_var 3) (c_var 4) ⟨by omega, by omega⟩) (.inl (by decide))) (by rw [hdv]; exact ⟨by omega, by omega⟩)) (tg_nm 7 B.nd) (fun j ρ => ∃ d e, ρ = [.mut q ((turnsU c s m (startsU c s m (2 * DD) L i, i) j).1.map oD), .dat (.int c), .dat (.int (s : Nat)), .dat (.int (m : Nat)), .dat (.int (Nat.gcd s m : Nat)), .dat (.int (i : Nat)), .dat (.int ((turnsU c s m (startsU c s m (2 * DD) L i, i) j).2 : Nat)), d, e]) ⟨_, _, rfl⟩ (fun j d ρ hd hJ => ?_) (fun ρ hJ => ?_)
    · obtain ⟨hj, rfl⟩ := rangeD_inv hd
      obtain ⟨d, e, rfl⟩ := hJ
      refine ⟨_, .nm, ?_⟩
      have hlen : (turnsU c s m (startsU c s m (2 * DD) L i, i) j).1.length = m := by rw [turnsU_len, startsU_len, hl]
      have hlt : (turnsU c s m (startsU c s m (2 * DD) L i, i) j).2 < m := turnsU_lt (by omega) (show i < m by omega) j
      show CSs _ _ _ _
      generalize eT : turnsU c s m (startsU c s m (2 * DD) L i, i) j = T' at hlen hlt ⊢
      have eT1 : turnsU c s m (startsU c s m (2 * DD) L i, i) (j + 1) = (stepU c T'.1 T'.2 ((T'.2 + s) % m), (T'.2 + s) % m) := by rw [← eT]; rfl
      rw [eT1]
      obtain ⟨M, h⟩ := T'
      have hlen : M.length = m := hlen
      have hlt : h < m := hlt
      have ht : (h + s) % m < m := Nat.mod_lt _ (by omega)
      have hte : ((h : Nat) : Int) + (s : Nat) = ((h + s : Nat) : Int) := rfl
      refine css_asg 8 B (c_mod (c_add (c_var 6) (c_var 2)) (c_var 3) (by omega)) ?_
      have hmm : (((h : Nat) : Int) + (s : Nat)) % ((m : Nat) : Int) = (((h + s) % m : Nat) : Int) := rfl
      show CSs _ [.mut q (M.map oD), .dat (.int c), .dat (.int (s : Nat)), .dat (.int (m : Nat)), .dat (.int (Nat.gcd s m : Nat)), .dat (.int (i : Nat)), .dat (.int (h : Nat)), _, .dat (.int (((h + s) % m : Nat) : Int))] _ _
      have gH := at_o (L := M) (h := h) (by omega)
      have gT := at_o (L := M) (h := (h + s) % m) (by omega)
      cases hx : M.getD h none with
      | none =>
        rw [hx] at gH
        have hst : stepU c M h ((h + s) % m) = M := by unfold stepU; rw [hx]
        rw [hst]
        refine css_if (k := false) (CT.eq (t_w (w_and (l := false) (t_bor (t_notN (c_ixL (c_var 0) (c_var 6) gH) c_non)) (fun h => Bool.noConfusion h))) rfl) (fun h => Bool.noConfusion h) (fun _ => css_nil ?_)
        exact css_asg 6 B (c_var 8) (css_nil ⟨_, _, rfl⟩)
      | some x =>
        rw [hx] at gH
        cases hy : M.getD ((h + s) % m) none with
        | none =>
          rw [hy] at gT
          have hst : (stepU c M h ((h + s) % m)).map oD = (M.map oD).set ((h + s) % m) (.int (x + c)) := by unfold stepU; rw [hx, hy]; exact List.map_set
          rw [hst]
          refine css_if (k := true) (CT.eq (t_w (w_and (l := true) (t_bor (t_notN (c_ixL (c_var 0) (c_var 6) gH) c_non)) (fun _ => w_and1 (t_w (w_or (k := true) (l := true) (t_bor (t_isN (c_ixL (c_var 0) (c_var 8) gT) c_non)) (fun h => Bool.noConfusion h)))))) rfl) (fun _ => ?_) (fun h => Bool.noConfusion h)
          refine css_setIx (j := (h + s) % m) 0 B (c_bor rfl (c_add (c_ixL (c_var 0) (c_var 6) gH) (c_var 1))) (c_var 8) rfl (by rw [List.length_map, hlen]; exact ixN_at ht) (css_nil ?_)
          exact css_asg 6 B (c_var 8) (css_nil ⟨_, _, rfl⟩)
        | some y =>
          rw [hy] at gT
          by_cases hc : x + c < y
          · have hst : (stepU c M h ((h + s) % m)).map oD = (M.map oD).set ((h + s) % m) (.int (x + c)) := by unfold stepU; rw [hx, hy]; dsimp only; rw [if_pos hc]; exact List.map_set
            rw [hst]
            refine css_if (k := true) (CT.eq (t_w (w_and (l := true) (t_bor (t_notN (c_ixL (c_var 0) (c_var 6) gH) c_non)) (fun _ => w_and1 (CT.eq (t_w (w_or (k := false) (t_bor (t_isN (c_ixL (c_var 0) (c_var 8) gT) c_non)) (fun _ => w_or1 (t_bor (t_lt (c_add (c_ixL (c_var 0) (c_var 6) gH) (c_var 1)) (c_ixL (c_var 0) (c_var 8) gT)))))) (by rw [Bool.false_or]; exact decide_eq_true hc))))) rfl) (fun _ => ?_) (fun h => Bool.noConfusion h)
            refine css_setIx (j := (h + s) % m) 0 B (c_bor rfl (c_add (c_ixL (c_var 0) (c_var 6) gH) (c_var 1))) (c_var 8) rfl (by rw [List.length_map, hlen]; exact ixN_at ht) (css_nil ?_)
            exact css_asg 6 B (c_var 8) (css_nil ⟨_, _, rfl⟩)
          · have hst : stepU c M h ((h + s) % m) = M := by unfold stepU; rw [hx, hy]; dsimp only; rw [if_neg hc]
            rw [hst]
            refine css_if (k := false) (CT.eq (t_w (w_and (l := false) (t_bor (t_notN (c_ixL (c_var 0) (c_var 6) gH) c_non)) (fun _ => w_and1 (CT.eq (t_w (w_or (k := false) (t_bor (t_isN (c_ixL (c_var 0) (c_var 8) gT) c_non)) (fun _ => w_or1 (t_bor (t_lt (c_add (c_ixL (c_var 0) (c_var 6) gH) (c_var 1)) (c_ixL (c_var 0) (c_var 8) gT)))))) (by rw [Bool.false_or]; exact decide_eq_false hc))))) rfl) (fun h => Bool.noConfusion h) (fun _ => css_nil ?_)
            exact css_asg 6 B (c_var 8) (css_nil ⟨_, _, rfl⟩)
    · obtain ⟨d, e, rfl⟩ := hJ
      have hn : (rangeD 0 (2 * ((m : Int) / ((Nat.gcd s m : Nat) : Int))).toNat).length = 2 * DD := by rw [rangeD_len, hdv]; omega
      rw [hn]
      exact css_nil ⟨_, _, _, _, rfl⟩
  · obtain ⟨a, b, d, e, rfl⟩ := hJ
    refine css_nil ⟨_, rfl, ?_⟩
    rw [rangeD_len]
    exact hR
end KK
end

section
set_option Elab.async false
set_option linter.all false
set_option maxRecDepth 100000
set_option maxHeartbeats 4000000
namespace KK
open PySem PySem.Spec PyProof.Rows L2 VL
abbrev s_built : Stmt := topS 16
abbrev N_built : List Str := ["coins", "modulus", "needed_ones", "table", "coin", "held"]
theorem sc_built : FnScope N_built ["coins"] (defScope s_built) := ⟨rfl, rfl, rfl, by decide +kernel, rfl, by decide +kernel, by decide +kernel⟩
variable {P : Program} {w : World} {K : PySem.W.Frag} {mg : Str → Option Value} {base : Heap} {f aCoinError aBadNumber aNoSystem aBadCoins aTooMany aSystem : Addr} {fd : FuncData}
def A_built (ds : List D) (r : Res) : Prop := ∃ (m : Nat) (cs : List Int), ds = [.lst (((m : Int) :: cs).map D.int)] ∧ 1 ≤ m ∧ m < 10000 ∧ cs.length < 10000 ∧ r = .ok (.tup [.lst ((builtL ((m : Int) :: cs)).1.map D.int), .lst ((builtL ((m : Int) :: cs)).2.map oD)])
theorem rep1 (n : Nat) (d : D) : (List.replicate n [d]).flatten = List.replicate n d := by
  induction n with
  | zero => rfl
  | succ n ih => rw [List.replicate_succ, List.flatten_cons, ih, List.replicate_succ]; rfl
theorem startT_map (m : Nat) (h : 1 ≤ m) : [D.int 0] ++ (List.replicate ((m : Int) - 1).toNat [D.non]).flatten = (startT m).map oD := by
  rw [rep1]
  unfold startT
  rw [List.map_cons, List.map_replicate, show ((m : Int) - 1).toNat = m - 1 by omega]
  rfl
theorem builtF_take {m : Nat} {cs : List Int} {s : List Int × List (Option Int)} {i : Nat} {c : Int} (h : cs[i]? = some c) : (cs.take (i + 1)).foldl (builtU m) s = builtU m ((cs.take i).foldl (builtU m) s) c := by
  rw [List.take_succ, h, Option.toList_some, List.foldl_append]
  rfl
theorem builtN_len (m : Nat) : ∀ (cs : List Int) (s : List Int × List (Option Int)), (cs.foldl (builtU m) s).1.length ≤ s.1.length + cs.length
  | [], s => Nat.le_refl _
  | c :: cs, s => by
    have h1 := builtN_len m cs (builtU m s c)
    have h2 : (builtU m s c).1.length ≤ s.1.length + 1 := by
      unfold builtU
      split
      · rw [List.length_append]; exact Nat.le_refl _
      · split
        · rw [List.length_append]; exact Nat.le_refl _
        · omega
    rw [List.foldl_cons, List.length_cons]
    omega
theorem at_o2 {L : List (Option Int)} {m : Nat} {c : Int} (hm : 0 < m) (hl : L.length = m) : atI (L.map oD) (c % m) = some (oD (L.getD (c % m).toNat none)) := by
  have h1 := Int.emod_nonneg c (show (m : Int) ≠ 0 by omega)
  have h2 := Int.emod_lt_of_pos c (show (0 : Int) < m by omega)
  refine atI_i (k := (c % m).toNat) (by omega) ?_
  rw [List.getElem?_map, List.getD_eq_getElem?_getD, List.getElem?_eq_getElem (by omega)]
  rfl
theorem isNon_oD (o : Option Int) : isNon (oD o) = o.isNone := by cases o <;> rfl
theorem imm_o (o : Option Int) : immut (oD o) = true := by cases o <;> rfl
theorem ok_built (T : Blt mg) (F_round_up : FnV P w K mg base 3 "round_up" (mutS A_round_up)) (Fu : Fun K "built" "built" s_built f fd) (hb : Binds K fd ["coins"] []) (hm : mg "built" = some (.ref f)) : FnV P w K mg base 4 "built" (detS A_built) := by
  refine fn_pure (k := 3) Fu sc_built hb hm (fun ds r ⟨m, cs, e, _⟩ => by subst e; rfl) fun cdv A' outer s' H E hr B ds r ⟨m, cs, e, hm1, hm2, hcl, er⟩ => ?_
  subst e er
  refine css_asg 1 B (c_ixL (c_var 0) c_int (atI_i (k := 0) rfl rfl)) ?_
  refine css_par2N 2 3 B (n_lst (d_cons (c_var 1) d_nil) (sz (by simp))) (n_catL (CN.ce (n_lst (d_cons c_int d_nil) (sz (by simp)))) (CN.ce (n_repL (CN.ce (n_lst (d_cons c_non d_nil) (sz (by simp)))) (c_sub (c_var 1) c_int) ⟨by omega, by omega⟩ (sz (by simp only [List.length_cons, List.length_nil]; omega)))) (sz (by rw [rep1, List.length_replicate]; simp only [List.length_cons, List.length_nil]; omega))) (fun q p => ?_)
  rw [startT_map m hm1]
  refine css_for (T := .nm 4) B (ci_list (CN.ce (n_slL (c_var 0) (o_some c_int) o_none))) (tg_nm 4 B.nd) (fun i ρ => ∃ a b, ρ = [.dat (.lst (((m : Int) :: cs).map D.int)), .dat (.int m), .mut q (((cs.take i).foldl (builtU m) ([(m : Int)], startT m)).1.map D.int), .mut p (((cs.take i).foldl (builtU m) ([(m : Int)], startT m)).2.map oD), a, b]) ⟨_, _, rfl⟩ (fun i d ρ hd hJ => ?_) (fun ρ hJ => ?_)
  · obtain ⟨a, b, rfl⟩ := hJ
    have hcut : cutD (((m : Int) :: cs).map D.int) (some 1) none = cs.map D.int := by
      rw [show (some (1 : Int)) = some ((1 : Nat) : Int) from rfl, cutD_drop]
      rfl
    rw [hcut, List.getElem?_map] at hd
    cases hx : cs[i]? with
    | none => rw [hx] at hd; cases hd
    | some c =>
      rw [hx] at hd
      cases hd
      have hil : i < cs.length := (List.getElem?_eq_some_iff.mp hx).1
      refine ⟨_, .nm, ?_⟩
      rw [builtF_take hx]
      have hlen : ((cs.take i).foldl (builtU m) ([(m : Int)], startT m)).2.length = m := by
        rw [builtF_len]
        unfold startT
        rw [List.length_cons, List.length_replicate]
        omega
      have hln := builtN_len m (cs.take i) ([(m : Int)], startT m)
      rw [List.length_take] at hln
      generalize (cs.take i).foldl (builtU m) ([(m : Int)], startT m) = S at hlen hln ⊢
      obtain ⟨ns, L⟩ := S
      have hlen : L.length = m := hlen
      have hln : ns.length ≤ 1 + min i cs.length := hln
      have hm0 : 0 < m := by omega
      have gA := at_o2 (L := L) (c := c) hm0 hlen
      have e0 := Int.emod_nonneg c (show (m : Int) ≠ 0 by omega)
      have e1 := Int.emod_lt_of_pos c (show (0 : Int) < m by omega)
      have e2 : c % (m : Int) = (((c % (m : Int)).toNat : Nat) : Int) := by omega
      refine css_asg 5 B (c_bor (imm_o _) (c_ixL (c_var 3) (c_mod (c_var 4) (c_var 1) (by omega)) gA)) ?_
      cases hy : L.getD (c % (m : Int)).toNat none with
      | none =>
        have hst : builtU m (ns, L) c = (ns ++ [c], roundU c (c % (m : Int)).toNat m L) := by unfold builtU; rw [hy]
        rw [hst]
        refine css_if (k := true) (CT.eq (t_w (w_or (k := true) (l := true) (t_isN (x := .non) (c_var 5) c_non) (fun h => Bool.noConfusion h))) rfl) (fun _ => ?_) (fun h => Bool.noConfusion h)
        refine css_append 2 (c_var 4) rfl rfl (szl (by rw [List.length_map]; show ns.length < 100000; omega)) ?_
        refine css_exprQ (q_callM 3 F_round_up (hr.mono (by decide)) rfl (d_cons (c_var 4) (d_cons (CE.eq (c_mod (c_var 4) (c_var 1) (by omega)) (congrArg D.int e2)) (d_cons (c_var 1) d_nil))) rfl ⟨_, _, _, rfl, L, c, (c % (m : Int)).toNat, m, rfl, rfl, hlen, by omega, hm2, _, rfl, ?_⟩) 
        refine css_nil (css_nil ?_)
        rw [List.map_append]
        exact ⟨_, _, rfl⟩
      | some h =>
        by_cases hc : c < h
        · have hst : builtU m (ns, L) c = (ns ++ [c], roundU c (c % (m : Int)).toNat m L) := by unfold builtU; rw [hy]; dsimp only; rw [if_pos hc]
          rw [hst]
          refine css_if (k := true) (CT.eq (t_w (w_or (k := false) (t_isN (x := .int h) (c_var 5) c_non) (fun _ => w_or1 (t_gt (c_var 5) (c_var 4))))) (by rw [Bool.false_or]; exact decide_eq_true hc)) (fun _ => ?_) (fun h => Bool.noConfusion h)
          refine css_append 2 (c_var 4) rfl rfl (szl (by rw [List.length_map]; show ns.length < 100000; omega)) ?_
          refine css_exprQ (q_callM 3 F_round_up (hr.mono (by decide)) rfl (d_cons (c_var 4) (d_cons (CE.eq (c_mod (c_var 4) (c_var 1) (by omega)) (congrArg D.int e2)) (d_cons (c_var 1) d_nil))) rfl ⟨_, _, _, rfl, L, c, (c % (m : Int)).toNat, m, rfl, rfl, hlen, by omega, hm2, _, rfl, ?_⟩) 
          refine css_nil (css_nil ?_)
          rw [List.map_append]
          exact ⟨_, _, rfl⟩
        · have hst : builtU m (ns, L) c = (ns, L) := by unfold builtU; rw [hy]; dsimp only; rw [if_neg hc]
          rw [hst]
          refine css_if (k := false) (CT.eq (t_w (w_or (k := false) (t_isN (x := .int h) (c_var 5) c_non) (fun _ => w_or1 (t_gt (c_var 5) (c_var 4))))) (by rw [Bool.false_or]; exact decide_eq_false hc)) (fun h => Bool.noConfusion h) (fun _ => ?_)
          exact css_nil (css_nil ⟨_, _, rfl⟩)
  · obtain ⟨a, b, rfl⟩ := hJ
    have hcut : (cutD (((m : Int) :: cs).map D.int) (some 1) none).length = cs.length := by
      rw [show (some (1 : Int)) = some ((1 : Nat) : Int) from rfl, cutD_drop]
      exact List.length_map _
    rw [hcut, List.take_length]
    refine css_freeze (i := 2) rfl (css_freeze (i := 3) rfl ?_)
    exact css_ret (c_tup (d_cons (c_var 2) (d_cons (c_var 3) d_nil)) (sz (by simp))) rfl
end KK
end

section
set_option Elab.async false
set_option linter.all false
set_option maxRecDepth 100000
set_option maxHeartbeats 4000000
namespace KK
open PySem PySem.Spec PyProof.Rows L2 VL
abbrev s_check_coins : Stmt := topS 17
abbrev N_check_coins : List Str := ["coins", "at", "coin"]
theorem sc_check_coins : FnScope N_check_coins ["coins"] (defScope s_check_coins) := ⟨rfl, rfl, rfl, by decide +kernel, rfl, by decide +kernel, by decide +kernel⟩
variable {P : Program} {w : World} {K : PySem.W.Frag} {mg : Str → Option Value} {base : Heap} {f aCoinError aBadNumber aNoSystem aBadCoins aTooMany aSystem : Addr} {fd : FuncData}
/-- coins that are right (the errors are not said here) -/
def A_check_coins (ds : List D) (r : Res) : Prop := ∃ cs : List Int, ds = [.tup (cs.map D.int)] ∧ okC cs = true ∧ r = .ok .non
theorem nodup_at : ∀ {cs : List Int} {i : Nat} {c : Int}, cs.Nodup → cs[i]? = some c → (cs.take i).contains c = false
  | [], i, c, _, h => by simp at h
  | x :: xs, 0, c, _, h => rfl
  | x :: xs, i + 1, c, n, h => by
    rw [List.nodup_cons] at n
    rw [List.getElem?_cons_succ] at h
    have hm := List.mem_of_getElem? h
    rw [List.take_succ_cons, List.contains_cons, nodup_at n.2 h, Bool.or_false]
    exact beq_eq_false_iff_ne.mpr fun e => n.1 (e ▸ hm)
theorem ok_check_coins (T : Blt mg) (F_is_within : FnV P w K mg base 2 "is_within" (detS A_is_within)) (F_common_of : FnV P w K mg base 2 "common_of" (detS A_common_of)) (Fu : Fun K "check_coins" "check_coins" s_check_coins f fd) (hb : Binds K fd ["coins"] []) (hm : mg "check_coins" = some (.ref f)) : FnV P w K mg base 3 "check_coins" (detS A_check_coins) := by
  refine fn_pure (k := 2) Fu sc_check_coins hb hm (fun ds r ⟨cs, e, _⟩ => by subst e; rfl) fun cdv A' outer s' H E hr B ds r ⟨cs, e, ho, er⟩ => ?_
  subst e er
  obtain ⟨h1, h2, h3, h4, h5, h6⟩ := okC_of ho
  refine css_if (k := false) (CT.eq (t_w (w_or (k := false) (CT.eq (t_not (t_val (c_isi T.isinstance (c_var 0) (c_bty "tuple" T.tuple) (by rfl) (by rfl)))) (by rfl)) (fun _ => w_or1 (t_eqI (c_lenT T.len (c_var 0)) c_int)))) ?_) (fun h => Bool.noConfusion h) (fun _ => css_nil ?_)
  · rw [Bool.false_or, List.length_map]
    exact decide_eq_false (by omega)
  refine css_for (T := .tp [.nm 1, .nm 2]) B (ci_enumT T.enumerate (c_var 0)) (tg_tp rfl (tgs_cons (tg_nm 1 B.nd) (tgs_cons (tg_nm 2 B.nd) tgs_nil))) (fun i ρ => ∃ a b, ρ = [.dat (.tup (cs.map D.int)), a, b]) ⟨_, _, rfl⟩ (fun i d ρ hd hJ => ?_) (fun ρ hJ => ?_)
  · obtain ⟨x, hx, rfl⟩ := enumD_inv hd
    obtain ⟨a, b, rfl⟩ := hJ
    rw [List.getElem?_map] at hx
    cases hc : cs[i]? with
    | none => rw [hc] at hx; cases hx
    | some c =>
      rw [hc] at hx
      cases hx
      have hlt := (List.getElem?_eq_some_iff.mp hc).1
      obtain ⟨c1, c2⟩ := h3 c (List.mem_of_getElem? hc)
      refine ⟨_, .tp (.cons .nm (.cons .nm .nil)), ?_⟩
      have hw : within (.int c) 1 1000000 = true := by
        show (decide (1 ≤ c) && decide (c ≤ 1000000)) = true
        rw [decide_eq_true c1, decide_eq_true c2]
        rfl
      have ht : cutD (cs.map D.int) none (some ((i : Nat) : Int)) = (cs.take i).map D.int := by rw [cutD_take, List.map_take]
      refine css_if (k := false) (CT.eq (t_w (w_or (k := false) (CT.eq (t_ge (i := (i : Nat)) (j := 700) (c_var 1) (c_gint T.MOST_COINS)) (decide_eq_false (by omega))) (fun _ => w_or (k := false) (CT.eq (t_not (t_val (c_call F_is_within (hr.mono (by decide)) (d_cons (c_var 2) (d_cons c_int (d_cons (c_gint T.MOST_COIN) d_nil))) (fun R h => ⟨_, _, rfl, ⟨.int c, 1, 1000000, rfl, rfl, by rw [hw]⟩, h⟩)))) (by rfl))
        (fun _ => w_or1 (t_inT (i := c) (ns := cs.take i) (c_var 2) (CE.eq (c_slT (c_var 0) o_none (o_some (c_var 1))) (congrArg D.tup ht))))))) ?_) (fun h => Bool.noConfusion h) (fun _ => css_nil (css_nil ⟨_, _, rfl⟩))
      rw [nodup_at h4 hc]
      rfl
  · obtain ⟨a, b, rfl⟩ := hJ
    refine css_if (k := false) (CT.eq (t_w (w_or (k := false) (CT.eq (t_gt (i := minI cs) (j := 2000) (c_minT B.calm T.min (c_var 0) h1) (c_gint T.MOST_LEAST)) (decide_eq_false (by omega))) (fun _ => w_or1 (t_neI (i := (gcdL cs : Nat)) (j := 1) (c_call F_common_of (hr.mono (by decide)) (d_cons (c_var 0) d_nil) (fun R h => ⟨_, _, rfl, ⟨cs, .inl rfl, rfl⟩, h⟩)) c_int)))) ?_) (fun h => Bool.noConfusion h) (fun _ => css_nil (css_nil rfl))
    rw [show gcdL cs = 1 from h6]
    rfl
end KK
end

section
set_option Elab.async false
set_option linter.all false
set_option maxRecDepth 100000
set_option maxHeartbeats 4000000
namespace KK
open PySem PySem.Spec PyProof.Rows L2 VL
abbrev s_check_system : Stmt := topS 19
abbrev N_check_system : List Str := ["system"]
theorem sc_check_system : FnScope N_check_system ["system"] (defScope s_check_system) := ⟨rfl, rfl, rfl, by decide +kernel, rfl, by decide +kernel, by decide +kernel⟩
variable {P : Program} {w : World} {K : PySem.W.Frag} {mg : Str → Option Value} {base : Heap} {f aCoinError aBadNumber aNoSystem aBadCoins aTooMany aSystem : Addr} {fd : FuncData}
def A_check_system (C aN : Addr) (ds : List D) (r : Res) : Prop := (∃ cs, ds = [sysD C cs] ∧ r = .ok .non) ∨ (∃ d, ds = [d] ∧ plD d = true ∧ r = .error ⟨aN, []⟩)
theorem ok_check_system (T : Blt mg) (S_System : SysC K mg aSystem) (E_NoSystem : EX0 P w K mg base "NoSystem" aNoSystem) (Fu : Fun K "check_system" "check_system" s_check_system f fd) (hb : Binds K fd ["system"] []) (hm : mg "check_system" = some (.ref f)) : FnV P w K mg base 1 "check_system" (detS (A_check_system aSystem aNoSystem)) := by
  refine fn_pure (k := 0) Fu sc_check_system hb hm (fun ds r h => by rcases h with ⟨d, e, _⟩ | ⟨d, e, _⟩ <;> (subst e; rfl)) fun cdv A' outer s H E hr B ds r h => ?_
  have TB := E_NoSystem (cx P w K mg base N_check_system "check_system" s_check_system f cdv A' outer s H E) rfl rfl rfl rfl rfl
  rcases h with ⟨cs, e, er⟩ | ⟨d, e, hp, er⟩
  · subst e er
    exact css_if (k := false) (CT.eq (t_not (t_val (c_isiY S_System.o T.isinstance (c_var 0) (c_gref S_System.g)))) (by rfl)) (fun h => Bool.noConfusion h) (fun _ => css_nil (css_nil rfl))
  · subst e er
    refine css_if (k := true) (CT.eq (t_not (t_val (c_isiN S_System.o T.isinstance (c_var 0) (c_gref S_System.g) hp))) (by rfl)) (fun _ => ?_) (fun h => Bool.noConfusion h)
    exact css_raise0 B TB rfl
end KK
end

section
set_option Elab.async false
set_option linter.all false
set_option maxRecDepth 100000
set_option maxHeartbeats 4000000
namespace KK
open PySem PySem.Spec PyProof.Rows L2 VL
abbrev s_check_sum : Stmt := topS 20
abbrev N_check_sum : List Str := ["system", "number"]
theorem sc_check_sum : FnScope N_check_sum ["system", "number"] (defScope s_check_sum) := ⟨rfl, rfl, rfl, by decide +kernel, rfl, by decide +kernel, by decide +kernel⟩
variable {P : Program} {w : World} {K : PySem.W.Frag} {mg : Str → Option Value} {base : Heap} {f aCoinError aBadNumber aNoSystem aBadCoins aTooMany aSystem : Addr} {fd : FuncData}
def A_check_sum (C aN aB : Addr) (ds : List D) (r : Res) : Prop := ∃ d n, ds = [d, n] ∧ plD n = true ∧ ((∃ cs, d = sysD C cs ∧ r = if intQ n then .ok .non else .error ⟨aB, []⟩) ∨ (plD d = true ∧ r = .error ⟨aN, []⟩))
theorem ok_check_sum (T : Blt mg) (S_System : SysC K mg aSystem) (E_BadNumber : EX0 P w K mg base "BadNumber" aBadNumber) (F_check_system : FnV P w K mg base 1 "check_system" (detS (A_check_system aSystem aNoSystem))) (F_is_integer : FnV P w K mg base 1 "is_integer" (detS A_is_integer)) (Fu : Fun K "check_sum" "check_sum" s_check_sum f fd) (hb : Binds K fd ["system", "number"] []) (hm : mg "check_sum" = some (.ref f)) : FnV P w K mg base 2 "check_sum" (detS (A_check_sum aSystem aNoSystem aBadNumber)) := by
  refine fn_pure (k := 1) Fu sc_check_sum hb hm (fun ds r ⟨d, n, e, _⟩ => by subst e; rfl) fun cdv A' outer s H E hr B ds r ⟨d, n, e, hp, h⟩ => ?_
  subst e
  have TB := E_BadNumber (cx P w K mg base N_check_sum "check_sum" s_check_sum f cdv A' outer s H E) rfl rfl rfl rfl rfl
  rcases h with ⟨cs, e, er⟩ | ⟨hd, er⟩
  · subst e er
    refine css_exprR (r := .ok .non) (q_callD F_check_system (hr.mono (by decide)) (d_cons (c_var 0) d_nil) (.inl ⟨cs, rfl, rfl⟩)) (fun _ _ => ?_) (fun _ h => by cases h)
    refine css_if (t_not (t_val (c_call F_is_integer (hr.mono (by decide)) (d_cons (c_var 1) d_nil) (fun R h => ⟨_, _, rfl, ⟨_, rfl, hp, rfl⟩, h⟩)))) (fun h => ?_) (fun h => css_nil (css_nil ?_))
    · have h : intQ n = false := by cases q : intQ n <;> first | rfl | (rw [q] at h; cases h)
      exact css_raise0 B TB (by rw [h]; rfl)
    · have h : intQ n = true := by cases q : intQ n <;> first | rfl | (rw [q] at h; cases h)
      rw [h]; rfl
  · subst er
    exact css_exprR (r := .error ⟨aNoSystem, []⟩) (q_callD F_check_system (hr.mono (by decide)) (d_cons (c_var 0) d_nil) (.inr ⟨d, rfl, hd, rfl⟩)) (fun _ h => by cases h) (fun er h => by cases h; rfl)
end KK
end

section
set_option Elab.async false
set_option linter.all false
set_option maxRecDepth 100000
set_option maxHeartbeats 4000000
namespace KK
open PySem PySem.Spec PyProof.Rows L2 VL
abbrev s_pays_of : Stmt := topS 21
abbrev N_pays_of : List Str := ["system", "number"]
theorem sc_pays_of : FnScope N_pays_of ["system", "number"] (defScope s_pays_of) := ⟨rfl, rfl, rfl, by decide +kernel, rfl, by decide +kernel, by decide +kernel⟩
variable {P : Program} {w : World} {K : PySem.W.Frag} {mg : Str → Option Value} {base : Heap} {f aCoinError aBadNumber aNoSystem aBadCoins aTooMany aSystem : Addr} {fd : FuncData}
def A_pays_of (C : Addr) (ds : List D) (r : Res) : Prop := ∃ (cs : List Int) (n : Int), ds = [sysD C cs, .int n] ∧ okC cs = true ∧ fullT cs = true ∧ r = .ok (.bl (paysB cs n))
theorem ok_pays_of (T : Blt mg) (S_System : SysC K mg aSystem) (Fu : Fun K "pays_of" "pays_of" s_pays_of f fd) (hb : Binds K fd ["system", "number"] []) (hm : mg "pays_of" = some (.ref f)) : FnV P w K mg base 1 "pays_of" (detS (A_pays_of aSystem)) := by
  refine fn_pure (k := 0) Fu sc_pays_of hb hm (fun ds r ⟨cs, n, e, _⟩ => by subst e; rfl) fun cdv A' outer s H E hr B ds r ⟨cs, n, e, ho, hf, er⟩ => ?_
  subst e er
  obtain ⟨_, _, _, h1, h2⟩ := nd_ok ho
  have hl : (0 : Int) < ((rs cs).length : Nat) := by omega
  have e0 := Int.emod_nonneg n (show (((rs cs).length : Nat) : Int) ≠ 0 by omega)
  have e1 := Int.emod_lt_of_pos n hl
  obtain ⟨x, hx⟩ := full_at (i := (n % ((rs cs).length : Nat)).toNat) hf (by omega)
  have hat : atI ((rs cs).map oD) (n % (((rs cs).map oD).length : Nat)) = some (.int x) := by
    rw [List.length_map]
    refine atI_i (k := (n % ((rs cs).length : Nat)).toNat) (by omega) ?_
    rw [List.getElem?_map]
    rw [List.getD_eq_getElem?_getD] at hx
    cases q : (rs cs)[(n % ((rs cs).length : Nat)).toNat]? with
    | none => rw [q] at hx; cases hx
    | some y => rw [q] at hx; cases hx; rfl
  refine css_ret (c_and (c_ge (c_var 1) c_int) (fun _ => c_one (c_le (i := x) (j := n) (c_ixT (c_fld S_System.o.i.cl S_System.n3 (c_var 0)) (c_mod (c_var 1) (c_lenT T.len (c_fld S_System.o.i.cl S_System.n3 (c_var 0))) (by rw [List.length_map]; exact hl)) hat) (c_var 1)))) ?_
  unfold paysB
  rw [hx]
end KK
end

section
set_option Elab.async false
set_option linter.all false
set_option maxRecDepth 100000
set_option maxHeartbeats 1000000
namespace KK
open PySem PySem.Spec PyProof.Rows L2 VL
/-! ### payable sums, and that a system's table is right -/
inductive Pays (cs : List Int) : Int → Prop
  | zero : Pays cs 0
  | add {n c : Int} : c ∈ cs → Pays cs n → Pays cs (n + c)
theorem Pays.mono {cs ds : List Int} (h : ∀ c ∈ cs, c ∈ ds) {n : Int} (p : Pays cs n) : Pays ds n := by
  induction p with
  | zero => exact .zero
  | add hc _ ih => exact .add (h _ hc) ih
theorem Pays.plus {cs : List Int} {n m : Int} (p : Pays cs n) (q : Pays cs m) : Pays cs (n + m) := by
  induction q with
  | zero => rw [Int.add_zero]; exact p
  | add hc _ ih => rw [← Int.add_assoc]; exact .add hc ih
theorem Pays.one {cs : List Int} {c : Int} (h : c ∈ cs) : Pays cs c := by
  have := Pays.add h (Pays.zero (cs := cs))
  rwa [Int.zero_add] at this
theorem Pays.times {cs : List Int} {n : Int} (p : Pays cs n) : ∀ k : Nat, Pays cs ((k : Int) * n)
  | 0 => by rw [Int.natCast_zero, Int.zero_mul]; exact .zero
  | k + 1 => by
    rw [Int.natCast_succ, Int.add_mul, Int.one_mul]
    exact (p.times k).plus p
theorem Pays.nonneg {cs : List Int} (h : ∀ c ∈ cs, 0 ≤ c) {n : Int} (p : Pays cs n) : 0 ≤ n := by
  induction p with
  | zero => exact Int.le_refl _
  | add hc _ ih => have := h _ hc; omega
theorem Pays.trans {cs ds : List Int} (h : ∀ c ∈ cs, Pays ds c) {n : Int} (p : Pays cs n) : Pays ds n := by
  induction p with
  | zero => exact .zero
  | add hc _ ih => exact ih.plus (h _ hc)
/-- some of the first coin, the others else -/
theorem pays_cons {c : Int} {cs : List Int} {n : Int} : Pays (c :: cs) n ↔ ∃ (j : Nat), Pays cs (n - (j : Int) * c) := by
  constructor
  · intro p
    induction p with
    | zero => exact ⟨0, by rw [Int.natCast_zero, Int.zero_mul]; exact .zero⟩
    | @add n d hd _ ih =>
      obtain ⟨j, hj⟩ := ih
      rcases List.mem_cons.mp hd with rfl | hd
      · refine ⟨j + 1, ?_⟩
        rw [show n + d - ((j + 1 : Nat) : Int) * d = n - (j : Int) * d by rw [Int.natCast_succ, Int.add_mul, Int.one_mul]; omega]
        exact hj
      · refine ⟨j, ?_⟩
        rw [show n + d - (j : Int) * c = n - (j : Int) * c + d by omega]
        exact .add hd hj
  · rintro ⟨j, hj⟩
    have h1 := (hj.mono fun c' h => List.mem_cons_of_mem c h).plus ((Pays.one (cs := c :: cs) List.mem_cons_self).times j)
    rwa [Int.sub_add_cancel] at h1
/-- nothing is above all -/
def leO (a b : Option Int) : Prop := ∀ y, b = some y → ∃ x, a = some x ∧ x ≤ y
theorem leO.refl (a : Option Int) : leO a a := fun y h => ⟨y, h, Int.le_refl _⟩
theorem leO.trans {a b c : Option Int} (h : leO a b) (k : leO b c) : leO a c := fun z hz => by
  obtain ⟨y, hy, h1⟩ := k z hz
  obtain ⟨x, hx, h2⟩ := h y hy
  exact ⟨x, hx, Int.le_trans h2 h1⟩
def addO (c : Int) (a : Option Int) : Option Int := a.map (· + c)
theorem leO.add {a b : Option Int} (h : leO a b) (c : Int) : leO (addO c a) (addO c b) := fun z hz => by
  cases b with
  | none => cases hz
  | some y =>
    cases hz
    obtain ⟨x, rfl, h2⟩ := h y rfl
    exact ⟨x + c, rfl, by show x + c ≤ y + c; omega⟩
theorem addO_add (c d : Int) (a : Option Int) : addO c (addO d a) = addO (d + c) a := by
  cases a with
  | none => rfl
  | some x => show some (x + d + c) = some (x + (d + c)); rw [Int.add_assoc]
theorem addO_zero (a : Option Int) : addO 0 a = a := by
  cases a with
  | none => rfl
  | some x => show some (x + 0) = some x; rw [Int.add_zero]
abbrev gt (L : List (Option Int)) (i : Nat) : Option Int := L.getD i none
theorem gt_set_ne {L : List (Option Int)} {t i : Nat} {x : Option Int} (h : i ≠ t) : gt (L.set t x) i = gt L i := by
  unfold gt
  rw [List.getD_eq_getElem?_getD, List.getD_eq_getElem?_getD, List.getElem?_set_ne (Ne.symm h)]
theorem gt_set_eq {L : List (Option Int)} {t : Nat} {x : Option Int} (h : t < L.length) : gt (L.set t x) t = x := by
  unfold gt
  rw [List.getD_eq_getElem?_getD, List.getElem?_set_self h]
  rfl
theorem step_ne {c : Int} {L : List (Option Int)} {h t i : Nat} (hi : i ≠ t) : gt (stepU c L h t) i = gt L i := by
  unfold stepU
  split
  · rfl
  · exact gt_set_ne hi
  · split
    · exact gt_set_ne hi
    · rfl
theorem step_at {c : Int} {L : List (Option Int)} {h t : Nat} (ht : t < L.length) : leO (gt (stepU c L h t) t) (gt L t) ∧ leO (gt (stepU c L h t) t) (addO c (gt L h)) ∧ (gt (stepU c L h t) t = gt L t ∨ gt (stepU c L h t) t = addO c (gt L h)) := by
  unfold stepU
  split
  · rename_i e
    have e : gt L h = none := e
    rw [e]
    exact ⟨.refl _, (fun y hy => by cases hy), .inl rfl⟩
  · rename_i x e1 e2
    have e1 : gt L h = some x := e1
    have e2 : gt L t = none := e2
    rw [gt_set_eq ht, e1, e2]
    exact ⟨(fun y hy => by cases hy), .refl _, .inr rfl⟩
  · rename_i x y e1 e2
    have e1 : gt L h = some x := e1
    have e2 : gt L t = some y := e2
    split
    · rename_i hlt
      rw [gt_set_eq ht, e1, e2]
      exact ⟨(fun z hz => by cases hz; exact ⟨_, rfl, by omega⟩), .refl _, .inr rfl⟩
    · rename_i hlt
      rw [e1, e2]
      exact ⟨.refl _, (fun z hz => by cases hz; exact ⟨_, rfl, by show y ≤ x + c; omega⟩), .inl rfl⟩
theorem step_le {c : Int} {L : List (Option Int)} {h t : Nat} (ht : t < L.length) (i : Nat) : leO (gt (stepU c L h t) i) (gt L i) := by
  by_cases e : i = t
  · subst e; exact (step_at ht).1
  · rw [step_ne e]; exact .refl _
/-- what stands in a table is payable, with that rest -/
def Sound (m : Nat) (cs : List Int) (L : List (Option Int)) : Prop := ∀ r x, gt L r = some x → Pays cs x ∧ x % (m : Int) = (r : Int)
theorem step_sound {m : Nat} {cs : List Int} {c : Int} {s : Nat} {L : List (Option Int)} {h : Nat} (hc : c ∈ cs) (hs : c % (m : Int) = (s : Int)) (hm : 0 < m) (hl : L.length = m) (S : Sound m cs L) : Sound m cs (stepU c L h ((h + s) % m)) := fun r x hx => by
  have ht : (h + s) % m < L.length := by rw [hl]; exact Nat.mod_lt _ hm
  by_cases e : r = (h + s) % m
  · subst e
    rcases (step_at (c := c) (h := h) ht).2.2 with q | q
    · rw [q] at hx; exact S _ _ hx
    · rw [q] at hx
      cases g : gt L h with
      | none => rw [g] at hx; cases hx
      | some y =>
        rw [g] at hx
        cases hx
        obtain ⟨p1, p2⟩ := S _ _ g
        refine ⟨.add hc p1, ?_⟩
        rw [Int.add_emod, p2, hs]
        exact (Int.natCast_emod ..).symm
  · rw [step_ne e] at hx
    exact S _ _ hx
theorem turns_pos {c : Int} {s m : Nat} {L : List (Option Int)} {a : Nat} (ha : a < m) : ∀ k, (turnsU c s m (L, a) k).2 = (a + k * s) % m
  | 0 => by rw [Nat.zero_mul, Nat.add_zero, Nat.mod_eq_of_lt ha]; rfl
  | k + 1 => by
    show ((turnsU c s m (L, a) k).2 + s) % m = _
    rw [turns_pos ha k, Nat.mod_add_mod, Nat.succ_mul, Nat.add_assoc]
theorem turns_ok {c : Int} {s m : Nat} {L : List (Option Int)} {a : Nat} (ha : a < m) (hl : L.length = m) : ∀ k,
    (∀ i, leO (gt (turnsU c s m (L, a) k).1 i) (gt L i)) ∧ ∀ i, i ≤ k → ∀ j, j ≤ i → leO (gt (turnsU c s m (L, a) k).1 ((a + i * s) % m)) (addO ((j : Int) * c) (gt L ((a + (i - j) * s) % m)))
  | 0 => ⟨fun i => .refl _, fun i hi j hj => by
    obtain rfl : i = 0 := by omega
    obtain rfl : j = 0 := by omega
    rw [Int.natCast_zero, Int.zero_mul, addO_zero]
    exact .refl _⟩
  | k + 1 => by
    obtain ⟨h1, h2⟩ := turns_ok (c := c) (s := s) ha hl k
    have hm : 0 < m := by omega
    have hlen : (turnsU c s m (L, a) k).1.length = m := (turnsU_len c s m (L, a) k).trans hl
    have ht : ((turnsU c s m (L, a) k).2 + s) % m < (turnsU c s m (L, a) k).1.length := by rw [hlen]; exact Nat.mod_lt _ hm
    have e : (turnsU c s m (L, a) (k + 1)).1 = stepU c (turnsU c s m (L, a) k).1 (turnsU c s m (L, a) k).2 (((turnsU c s m (L, a) k).2 + s) % m) := rfl
    have mono := step_le (c := c) (h := (turnsU c s m (L, a) k).2) ht
    refine ⟨fun i => by rw [e]; exact (mono i).trans (h1 i), fun i hi j hj => ?_⟩
    rw [e]
    by_cases hik : i ≤ k
    · exact (mono _).trans (h2 i hik j hj)
    · obtain rfl : i = k + 1 := by omega
      cases j with
      | zero =>
        rw [Int.natCast_zero, Int.zero_mul, addO_zero]
        exact (mono _).trans (h1 _)
      | succ j =>
        have st := (step_at (c := c) (h := (turnsU c s m (L, a) k).2) ht).2.1
        have ep : ((turnsU c s m (L, a) k).2 + s) % m = (a + (k + 1) * s) % m := by
          rw [turns_pos ha k, Nat.mod_add_mod, Nat.succ_mul, Nat.add_assoc]
        rw [ep] at st ⊢
        refine st.trans ?_
        rw [turns_pos ha k]
        have := (h2 k (Nat.le_refl _) j (by omega)).add c
        rw [addO_add] at this
        rw [show k + 1 - (j + 1) = k - j by omega, show ((j + 1 : Nat) : Int) * c = (j : Int) * c + c by rw [Int.natCast_succ, Int.add_mul, Int.one_mul]]
        exact this
theorem turns_sound {m : Nat} {cs : List Int} {c : Int} {s : Nat} (hc : c ∈ cs) (hs : c % (m : Int) = (s : Int)) (hm : 0 < m) {L : List (Option Int)} {a : Nat} (hl : L.length = m) (S : Sound m cs L) : ∀ k, Sound m cs (turnsU c s m (L, a) k).1
  | 0 => S
  | k + 1 => step_sound hc hs hm ((turnsU_len c s m (L, a) k).trans hl) (turns_sound hc hs hm hl S k)
theorem starts_ok {c : Int} {s m n : Nat} {L : List (Option Int)} (hl : L.length = m) : ∀ k, k ≤ m →
    (∀ i, leO (gt (startsU c s m n L k) i) (gt L i)) ∧ ∀ a, a < k → ∀ i, i ≤ n → ∀ j, j ≤ i → leO (gt (startsU c s m n L k) ((a + i * s) % m)) (addO ((j : Int) * c) (gt L ((a + (i - j) * s) % m)))
  | 0, _ => ⟨fun i => .refl _, fun a ha => by omega⟩
  | k + 1, hk => by
    obtain ⟨h1, h2⟩ := starts_ok (c := c) (s := s) (n := n) hl k (by omega)
    have hlen : (startsU c s m n L k).length = m := (startsU_len c s m n L k).trans hl
    obtain ⟨t1, t2⟩ := turns_ok (c := c) (s := s) (a := k) (by omega) hlen n
    refine ⟨fun i => (t1 i).trans (h1 i), fun a ha i hi j hj => ?_⟩
    by_cases hak : a < k
    · exact (t1 _).trans (h2 a hak i hi j hj)
    · obtain rfl : a = k := by omega
      exact (t2 i hi j hj).trans ((h1 _).add _)
theorem starts_sound {m : Nat} {cs : List Int} {c : Int} {s n : Nat} (hc : c ∈ cs) (hs : c % (m : Int) = (s : Int)) (hm : 0 < m) {L : List (Option Int)} (hl : L.length = m) (S : Sound m cs L) : ∀ k, Sound m cs (startsU c s m n L k)
  | 0 => S
  | k + 1 => turns_sound hc hs hm ((startsU_len c s m n L k).trans hl) (starts_sound hc hs hm hl S k) n
/-- the table of the least payable sums of each rest -/
structure TabOk (m : Nat) (cs : List Int) (L : List (Option Int)) : Prop where
  len : L.length = m
  sound : Sound m cs L
  least : ∀ y, Pays cs y → leO (gt L (y % (m : Int)).toNat) (some y)
theorem bezout (a b : Nat) : ∃ u v : Int, ((Nat.gcd a b : Nat) : Int) = (a : Int) * u + (b : Int) * v := by
  induction a, b using Nat.gcd.induction with
  | H0 n => exact ⟨0, 1, by rw [Nat.gcd_zero_left]; omega⟩
  | H1 m n hm ih =>
    obtain ⟨u, v, h⟩ := ih
    refine ⟨v - ((n / m : Nat) : Int) * u, u, ?_⟩
    rw [Nat.gcd_rec, h]
    have e : ((n % m : Nat) : Int) = (n : Int) - (m : Int) * ((n / m : Nat) : Int) := by
      have := Nat.mod_add_div n m
      have h2 : ((n % m : Nat) : Int) + (m : Int) * ((n / m : Nat) : Int) = (n : Int) := by exact_mod_cast this
      omega
    rw [e, Int.sub_mul, Int.mul_sub, Int.mul_assoc]
    omega
/-- where a rest lies on its round -/
theorem on_round {s m r : Nat} (hm : 0 < m) (hr : r < m) : ∃ i, i < m / Nat.gcd s m ∧ r = (r % Nat.gcd s m + i * s) % m := by
  have hg : 0 < Nat.gcd s m := Nat.gcd_pos_of_pos_right s hm
  obtain ⟨n, hn⟩ := Nat.gcd_dvd_right s m
  obtain ⟨t, ht⟩ := Nat.gcd_dvd_left s m
  have hn0 : 0 < n := Nat.pos_of_ne_zero fun e => by rw [e, Nat.mul_zero] at hn; omega
  have hnd : m / Nat.gcd s m = n := Nat.div_eq_of_eq_mul_right hg hn
  -- Bezout
  obtain ⟨u, v, hb⟩ := bezout s m
  generalize Nat.gcd s m = d at *
  have hr2 : ((r : Nat) : Int) = ((r % d : Nat) : Int) + (d : Int) * ((r / d : Nat) : Int) := by
    have := Nat.mod_add_div r d
    exact_mod_cast this.symm
  refine ⟨((((r / d : Nat) : Int) * u) % (n : Int)).toNat, ?_, ?_⟩
  · rw [hnd]
    have h1 := Int.emod_nonneg (((r / d : Nat) : Int) * u) (show (n : Int) ≠ 0 by omega)
    have h2 := Int.emod_lt_of_pos (((r / d : Nat) : Int) * u) (show (0 : Int) < (n : Int) by omega)
    omega
  · have h1 := Int.emod_nonneg (((r / d : Nat) : Int) * u) (show (n : Int) ≠ 0 by omega)
    have h3 := Int.mul_ediv_add_emod (((r / d : Nat) : Int) * u) (n : Int)
    generalize ((r / d : Nat) : Int) * u % (n : Int) = i at h1 h3
    generalize ((r / d : Nat) : Int) * u / (n : Int) = k at h3
    obtain ⟨i', rfl⟩ : ∃ i' : Nat, (i' : Int) = i := ⟨i.toNat, by omega⟩
    have hs : (s : Int) = (d : Int) * (t : Int) := by exact_mod_cast ht
    have hmm : (m : Int) = (d : Int) * (n : Int) := by exact_mod_cast hn
    -- r = r % d + i' * s - m * (...)
    have key : ((r : Nat) : Int) = ((r % d : Nat) : Int) + (i' : Int) * (s : Int) + (m : Int) * (k * (t : Int) + ((r / d : Nat) : Int) * v) := by
      rw [hr2]
      have e2 : (i' : Int) = ((r / d : Nat) : Int) * u - (n : Int) * k := by omega
      clear h1 h3 hr2 hr hm hg hn0 hnd hn ht
      generalize ((r / d : Nat) : Int) = R at e2 ⊢
      generalize ((r % d : Nat) : Int) = Q
      generalize ((i' : Nat) : Int) = I at e2 ⊢
      generalize ((s : Nat) : Int) = S at hs hb ⊢
      generalize ((m : Nat) : Int) = M at hmm hb ⊢
      grind
    have : ((r : Nat) : Int) % (m : Int) = (((r % d + i' * s : Nat)) : Int) % (m : Int) := by
      rw [key, Int.add_mul_emod_self_left]
      push_cast
      rfl
    have h5 : ((r % m : Nat) : Int) = (((r % d + i' * s) % m : Nat) : Int) := by
      rw [Int.natCast_emod, Int.natCast_emod]; exact this
    rw [Nat.mod_eq_of_lt hr] at h5
    rw [show ((i' : Nat) : Int).toNat = i' from Int.toNat_natCast i']
    exact_mod_cast h5
theorem round_ok {m : Nat} {cs : List Int} {c : Int} {L : List (Option Int)} (hm : 0 < m) (hmc : (m : Int) ∈ cs) (hcs : ∀ d ∈ cs, 0 ≤ d) (hc : 0 ≤ c) (T : TabOk m cs L) : TabOk m (c :: cs) (roundU c (c % (m : Int)).toNat m L) := by
  have hs0 := Int.emod_nonneg c (show (m : Int) ≠ 0 by omega)
  obtain ⟨s, hs⟩ : ∃ s : Nat, c % (m : Int) = (s : Int) := ⟨(c % (m : Int)).toNat, by omega⟩
  rw [hs, Int.toNat_natCast]
  have hsm : s < m := by have := Int.emod_lt_of_pos c (show (0 : Int) < (m : Int) by omega); omega
  have hg : 0 < Nat.gcd s m := Nat.gcd_pos_of_pos_right s hm
  have hgm : Nat.gcd s m ≤ m := Nat.le_of_dvd hm (Nat.gcd_dvd_right s m)
  obtain ⟨n, hn⟩ := Nat.gcd_dvd_right s m
  obtain ⟨t, ht⟩ := Nat.gcd_dvd_left s m
  have hn0 : 0 < n := Nat.pos_of_ne_zero fun e => by rw [e, Nat.mul_zero] at hn; omega
  have hnd : m / Nat.gcd s m = n := Nat.div_eq_of_eq_mul_right hg hn
  have S0 : Sound m (c :: cs) L := fun r x hx => let ⟨a, b⟩ := T.sound r x hx; ⟨a.mono fun d hd => List.mem_cons_of_mem _ hd, b⟩
  refine ⟨(roundU_len ..).trans T.len, starts_sound List.mem_cons_self hs hm T.len S0 _, fun y hy => ?_⟩
  obtain ⟨j, hj⟩ := pays_cons.mp hy
  -- j below n: n coins c are coins m
  have hq : ∃ q : Nat, (n : Int) * c = (q : Int) * (m : Int) := by
    have h1 := Int.mul_ediv_add_emod c (m : Int)
    have h2 : 0 ≤ c / (m : Int) := Int.ediv_nonneg hc (by omega)
    refine ⟨((n : Int) * (c / (m : Int)) + (t : Int)).toNat, ?_⟩
    have h3 : 0 ≤ (n : Int) * (c / (m : Int)) := Int.mul_nonneg (by omega) h2
    rw [show (((n : Int) * (c / (m : Int)) + (t : Int)).toNat : Int) = (n : Int) * (c / (m : Int)) + (t : Int) by omega]
    have e1 : c = (m : Int) * (c / (m : Int)) + (s : Int) := by omega
    have e2 : (n : Int) * (s : Int) = (t : Int) * (m : Int) := by
      have : n * s = t * m := by
        rw [ht, hn]
        have e : Nat.gcd s m * n = m := hn.symm
        have e' : Nat.gcd s m * t = s := ht.symm
        rw [e, e'] 
        calc n * s = n * (Nat.gcd s m * t) := by rw [e']
          _ = t * (Nat.gcd s m * n) := by rw [Nat.mul_left_comm, Nat.mul_comm n t, Nat.mul_left_comm]
          _ = t * m := by rw [e]
      exact_mod_cast this
    generalize c / (m : Int) = k at e1 h3 ⊢
    rw [e1, Int.mul_add, e2, Int.add_mul]
    congr 1
    rw [Int.mul_left_comm, Int.mul_comm]
  obtain ⟨q, hq⟩ := hq
  have red : ∀ j : Nat, Pays cs (y - (j : Int) * c) → ∃ j', j' < n ∧ Pays cs (y - (j' : Int) * c) := fun j => by
    induction j using Nat.strongRecOn with
    | ind j ih =>
      intro hj
      by_cases hlt : j < n
      · exact ⟨j, hlt, hj⟩
      · refine ih (j - n) (by omega) ?_
        have e : y - ((j - n : Nat) : Int) * c = y - (j : Int) * c + (q : Int) * (m : Int) := by
          rw [← hq, show ((j - n : Nat) : Int) = (j : Int) - (n : Int) by omega, Int.sub_mul]
          omega
        rw [e]
        exact hj.plus ((Pays.one hmc).times q)
  obtain ⟨j, hjn, hj⟩ := red j hj
  have l0 := T.least _ hj
  have r0 := Int.emod_nonneg (y - (j : Int) * c) (show (m : Int) ≠ 0 by omega)
  have r1 := Int.emod_lt_of_pos (y - (j : Int) * c) (show (0 : Int) < (m : Int) by omega)
  obtain ⟨r, hr⟩ : ∃ r : Nat, (y - (j : Int) * c) % (m : Int) = (r : Int) := ⟨((y - (j : Int) * c) % (m : Int)).toNat, by omega⟩
  rw [hr, Int.toNat_natCast] at l0
  obtain ⟨i, hi, hri⟩ := on_round (s := s) hm (show r < m by omega)
  rw [hnd] at hi
  have rmod : r % Nat.gcd s m < Nat.gcd s m := Nat.mod_lt _ hg
  obtain ⟨_, k2⟩ := starts_ok (c := c) (s := s) (n := 2 * (m / Nat.gcd s m)) T.len (Nat.gcd s m) hgm
  have k3 := k2 _ rmod (i + j) (by rw [hnd]; omega) j (by omega)
  rw [show i + j - j = i by omega, ← hri] at k3
  have k4 := k3.trans (l0.add ((j : Int) * c))
  have e1 : addO ((j : Int) * c) (some (y - (j : Int) * c)) = some y := by
    show some (y - (j : Int) * c + (j : Int) * c) = some y
    rw [Int.sub_add_cancel]
  rw [e1] at k4
  have e2 : (y % (m : Int)).toNat = (r % Nat.gcd s m + (i + j) * s) % m := by
    have h1 : y % (m : Int) = ((r : Int) + (j : Int) * (s : Int)) % (m : Int) := by
      have f1 := Int.mul_ediv_add_emod (y - (j : Int) * c) (m : Int)
      have f2 := Int.mul_ediv_add_emod c (m : Int)
      rw [hr] at f1
      rw [hs] at f2
      generalize (y - (j : Int) * c) / (m : Int) = A at f1
      generalize c / (m : Int) = B at f2
      have : y = (r : Int) + (j : Int) * (s : Int) + (m : Int) * (A + (j : Int) * B) := by
        have : y = ((m : Int) * A + (r : Int)) + (j : Int) * c := by omega
        rw [this, ← f2, Int.mul_add, Int.mul_add, Int.mul_left_comm]
        omega
      rw [this, Int.add_mul_emod_self_left]
    rw [h1]
    have h2 : (((r + j * s) % m : Nat) : Int) = ((r : Int) + (j : Int) * (s : Int)) % (m : Int) := by push_cast; rfl
    rw [← h2, Int.toNat_natCast]
    rw [Nat.add_mul, ← Nat.add_assoc, ← Nat.mod_add_mod (r % Nat.gcd s m + i * s), ← hri]
  rw [e2]
  exact k4
end KK
end

section
set_option Elab.async false
set_option linter.all false
set_option maxRecDepth 100000
set_option maxHeartbeats 1000000
namespace KK
open PySem PySem.Spec PyProof.Rows L2 VL
/-! ### the needed coins and the table of a system -/
theorem TabOk.congr {m : Nat} {cs ds : List Int} {L : List (Option Int)} (h : ∀ n, Pays cs n ↔ Pays ds n) (T : TabOk m cs L) : TabOk m ds L :=
  ⟨T.len, fun r x hx => let ⟨a, b⟩ := T.sound r x hx; ⟨(h x).mp a, b⟩, fun y hy => T.least y ((h y).mpr hy)⟩
theorem pays_mem {cs ds : List Int} (h : ∀ c, c ∈ cs ↔ c ∈ ds) (n : Int) : Pays cs n ↔ Pays ds n := ⟨fun p => p.mono fun c hc => (h c).mp hc, fun p => p.mono fun c hc => (h c).mpr hc⟩
theorem pays_single {m : Nat} {y : Int} (p : Pays [(m : Int)] y) : ∃ k : Nat, y = (k : Int) * (m : Int) := by
  induction p with
  | zero => exact ⟨0, by rw [Int.natCast_zero, Int.zero_mul]⟩
  | add hc _ ih =>
    obtain ⟨k, rfl⟩ := ih
    rw [List.mem_singleton.mp hc]
    exact ⟨k + 1, by rw [Int.natCast_succ, Int.add_mul, Int.one_mul]⟩
theorem start_gt {m r : Nat} : gt (startT m) r = if r = 0 then some 0 else none := by
  unfold gt startT
  cases r with
  | zero => rfl
  | succ r =>
    rw [if_neg (by omega), List.getD_cons_succ, List.getD_eq_getElem?_getD]
    by_cases h : r < m - 1
    · rw [List.getElem?_replicate, if_pos h]; rfl
    · rw [List.getElem?_eq_none (by rw [List.length_replicate]; omega)]; rfl
theorem start_ok {m : Nat} (hm : 0 < m) : TabOk m [(m : Int)] (startT m) := by
  refine ⟨?_, fun r x hx => ?_, fun y hy => ?_⟩
  · unfold startT
    rw [List.length_cons, List.length_replicate]
    omega
  · rw [start_gt] at hx
    split at hx
    · rename_i e
      cases hx
      exact ⟨.zero, by rw [e]; rfl⟩
    · cases hx
  · obtain ⟨k, rfl⟩ := pays_single hy
    rw [Int.mul_emod_left]
    intro z hz
    cases hz
    exact ⟨0, by rw [start_gt]; rfl, Int.mul_nonneg (by omega) (by omega)⟩
/-- what the walk over the coins keeps -/
structure BuiltOk (m : Nat) (dn : List Int) (s : List Int × List (Option Int)) : Prop where
  tab : TabOk m s.1 s.2
  m_in : (m : Int) ∈ s.1
  sub : ∀ c ∈ s.1, c ∈ dn
  all : ∀ c ∈ dn, Pays s.1 c
  ned : ∀ c ∈ dn, (c ∈ s.1 ↔ ¬ Pays (dn.filter fun x => decide (x < c)) c)
  srt : s.1.Pairwise (· < ·)
theorem filter_snoc {dn : List Int} {c d : Int} (h : d ≤ c) : (dn ++ [c]).filter (fun x => decide (x < d)) = dn.filter fun x => decide (x < d) := by
  rw [List.filter_append, List.filter_cons, if_neg (by simpa using h), List.filter_nil, List.append_nil]
theorem filter_all {dn : List Int} {c : Int} (h : ∀ d ∈ dn, d < c) : dn.filter (fun x => decide (x < c)) = dn := List.filter_eq_self.mpr fun d hd => decide_eq_true (h d hd)
theorem built_step {m : Nat} (hm : 0 < m) {dn : List Int} {s : List Int × List (Option Int)} {c : Int} (hdn : ∀ d ∈ dn, 1 ≤ d ∧ d < c) (B : BuiltOk m dn s) : BuiltOk m (dn ++ [c]) (builtU m s c) := by
  have hmd := hdn _ (B.sub _ B.m_in)
  have hc0 : 0 ≤ c := by omega
  have pos : ∀ d ∈ s.1, 0 ≤ d := fun d hd => by have := hdn d (B.sub d hd); omega
  have eqv : ∀ n, Pays s.1 n ↔ Pays dn n := fun n => ⟨fun p => p.mono B.sub, fun p => p.trans B.all⟩
  have hmod := Int.emod_nonneg c (show (m : Int) ≠ 0 by omega)
  have fc : (dn ++ [c]).filter (fun x => decide (x < c)) = dn := by rw [filter_snoc (Int.le_refl c), filter_all fun d hd => (hdn d hd).2]
  -- the new coin is needed
  have yes : ¬ Pays s.1 c → BuiltOk m (dn ++ [c]) (s.1 ++ [c], roundU c (c % (m : Int)).toNat m s.2) := fun hn => by
    have R := (round_ok hm B.m_in pos hc0 B.tab).congr (ds := s.1 ++ [c]) (pays_mem fun d => by simp [List.mem_append, or_comm])
    refine ⟨R, List.mem_append_left _ B.m_in, fun d hd => ?_, fun d hd => ?_, fun d hd => ?_, ?_⟩
    · rcases List.mem_append.mp hd with hd | hd
      · exact List.mem_append_left _ (B.sub d hd)
      · exact List.mem_append_right _ hd
    · rcases List.mem_append.mp hd with hd | hd
      · exact (B.all d hd).mono fun e he => List.mem_append_left _ he
      · exact .one (List.mem_append_right _ hd)
    · rcases List.mem_append.mp hd with hd | hd
      · have hlt := (hdn d hd).2
        rw [filter_snoc (by omega), ← B.ned d hd]
        constructor
        · intro h
          rcases List.mem_append.mp h with h | h
          · exact h
          · rw [List.mem_singleton] at h; omega
        · exact fun h => List.mem_append_left _ h
      · rw [List.mem_singleton] at hd
        subst hd
        rw [fc]
        exact ⟨fun _ h => hn ((eqv d).mpr h), fun _ => List.mem_append_right _ (List.mem_singleton.mpr rfl)⟩
    · rw [List.pairwise_append]
      refine ⟨B.srt, List.pairwise_singleton _ _, fun a ha b hb => ?_⟩
      rw [List.mem_singleton.mp hb]
      exact (hdn a (B.sub a ha)).2
  have no : Pays s.1 c → BuiltOk m (dn ++ [c]) s := fun hp => by
    refine ⟨B.tab, B.m_in, fun d hd => List.mem_append_left _ (B.sub d hd), fun d hd => ?_, fun d hd => ?_, B.srt⟩
    · rcases List.mem_append.mp hd with hd | hd
      · exact B.all d hd
      · rw [List.mem_singleton.mp hd]; exact hp
    · rcases List.mem_append.mp hd with hd | hd
      · have hlt := (hdn d hd).2
        rw [filter_snoc (by omega)]
        exact B.ned d hd
      · rw [List.mem_singleton] at hd
        subst hd
        rw [fc]
        exact ⟨fun h => absurd (hdn d (B.sub d h)).2 (by omega), fun h => absurd ((eqv d).mp hp) h⟩
  unfold builtU
  split
  · rename_i e
    refine yes fun hp => ?_
    obtain ⟨x, hx, _⟩ := B.tab.least c hp c rfl
    have e : gt s.2 (c % (m : Int)).toNat = none := e
    rw [e] at hx
    cases hx
  · rename_i h e
    have e : gt s.2 (c % (m : Int)).toNat = some h := e
    split
    · rename_i hlt
      refine yes fun hp => ?_
      obtain ⟨x, hx, hle⟩ := B.tab.least c hp c rfl
      rw [e] at hx
      cases hx
      omega
    · rename_i hlt
      refine no ?_
      obtain ⟨p1, p2⟩ := B.tab.sound _ _ e
      have p2 : h % (m : Int) = c % (m : Int) := by rw [p2]; omega
      have h1 := Int.mul_ediv_add_emod h (m : Int)
      have h2 := Int.mul_ediv_add_emod c (m : Int)
      have h3 : h / (m : Int) ≤ c / (m : Int) := Int.ediv_le_ediv (by omega) (by omega)
      have := p1.plus ((Pays.one B.m_in).times (c / (m : Int) - h / (m : Int)).toNat)
      rw [show (((c / (m : Int) - h / (m : Int)).toNat : Nat) : Int) = c / (m : Int) - h / (m : Int) by omega, Int.sub_mul, Int.mul_comm _ (m : Int), Int.mul_comm _ (m : Int)] at this
      rw [show c = h + ((m : Int) * (c / (m : Int)) - (m : Int) * (h / (m : Int))) by omega]
      exact this
theorem built_fold {m : Nat} (hm : 0 < m) : ∀ (cs dn : List Int) (s : List Int × List (Option Int)), (dn ++ cs).Pairwise (· < ·) → (∀ d ∈ dn ++ cs, 1 ≤ d) → BuiltOk m dn s → BuiltOk m (dn ++ cs) (cs.foldl (builtU m) s)
  | [], dn, s, _, _, B => by rw [List.append_nil]; exact B
  | c :: cs, dn, s, hp, h1, B => by
    have e : dn ++ c :: cs = (dn ++ [c]) ++ cs := by simp
    rw [e] at hp h1 ⊢
    refine built_fold hm cs (dn ++ [c]) _ hp h1 (built_step hm (fun d hd => ⟨h1 d (List.mem_append_left _ (List.mem_append_left _ hd)), ?_⟩) B)
    have := (List.pairwise_append.mp (List.pairwise_append.mp hp).1).2.2 d hd c (List.mem_singleton.mpr rfl)
    exact this
theorem sort_lt {cs : List Int} (h : cs.Nodup) : (sortI cs).Pairwise (· < ·) := by
  have h1 := sortI_srt cs
  have h2 : (sortI cs).Nodup := (sortI_perm cs).nodup_iff.mpr h
  have h3 : (sortI cs).Pairwise (fun a b => a ≤ b ∧ a ≠ b) := h1.and h2
  exact h3.imp fun {a b} ⟨x, y⟩ => by omega
/-- what a system is -/
structure SysOk (cs : List Int) (m : Nat) : Prop where
  m1 : 1 ≤ m
  m2 : m ≤ 2000
  len : (rs cs).length = m
  tab : TabOk m (nd cs) (rs cs)
  pays : ∀ n, Pays (nd cs) n ↔ Pays cs n
  m_in : (m : Int) ∈ nd cs
  least : ∀ c ∈ cs, (m : Int) ≤ c
  ned : ∀ c, c ∈ nd cs ↔ c ∈ cs ∧ ¬ Pays (cs.filter fun x => decide (x < c)) c
  srt : (nd cs).Pairwise (· < ·)
theorem sys_ok {cs : List Int} (h : okC cs = true) : ∃ m, SysOk cs m := by
  obtain ⟨m, rest, e, h1, h2, h3⟩ := sort_head h
  obtain ⟨_, _, k3, k4, _, _⟩ := okC_of h
  have en : nd cs = (rest.foldl (builtU m) ([(m : Int)], startT m)).1 := by unfold nd; rw [e]; rfl
  have er : rs cs = (rest.foldl (builtU m) ([(m : Int)], startT m)).2 := by unfold rs; rw [e]; rfl
  have hp := sort_lt k4
  have hmem : ∀ c, c ∈ ([(m : Int)] ++ rest) ↔ c ∈ cs := fun c => by
    rw [show [(m : Int)] ++ rest = sortI cs from e.symm]
    exact sortI_mem
  rw [e] at hp
  have B0 : BuiltOk m [(m : Int)] ([(m : Int)], startT m) := by
    refine ⟨start_ok (by omega), List.mem_singleton.mpr rfl, fun _ h => h, fun _ h => .one h, fun c hc => ?_, List.pairwise_singleton _ _⟩
    rw [List.mem_singleton] at hc
    subst hc
    rw [List.filter_cons, if_neg (by simp), List.filter_nil]
    refine ⟨fun _ p => ?_, fun _ => List.mem_singleton.mpr rfl⟩
    have key : ∀ y, Pays ([] : List Int) y → y = 0 := fun y q => by
      induction q with
      | zero => rfl
      | add hc _ _ => cases hc
    have := key _ p
    omega
  have B := built_fold (m := m) (by omega) rest [(m : Int)] _ hp (fun d hd => (k3 d ((hmem d).mp hd)).1) B0
  refine ⟨m, h1, h2, by rw [er]; exact B.tab.len, by rw [en, er]; exact B.tab, fun n => ?_, by rw [en]; exact B.m_in, fun c hc => ?_, fun c => ?_, by rw [en]; exact B.srt⟩
  · rw [en]
    exact ⟨fun p => p.mono fun c hc => (hmem c).mp (B.sub c hc), fun p => p.trans fun c hc => B.all c ((hmem c).mpr hc)⟩
  · have := (hmem c).mpr hc
    rcases List.mem_append.mp this with h | h
    · rw [List.mem_singleton.mp h]; exact Int.le_refl _
    · have := (List.pairwise_cons.mp hp).1 c h
      omega
  · rw [en]
    have fl : ∀ n, Pays (([(m : Int)] ++ rest).filter fun x => decide (x < c)) n ↔ Pays (cs.filter fun x => decide (x < c)) n := fun n => pays_mem (fun d => by rw [List.mem_filter, List.mem_filter, hmem d]) n
    constructor
    · intro hc
      have hd := B.sub c hc
      exact ⟨(hmem c).mp hd, fun p => (B.ned c hd).mp hc ((fl c).mpr p)⟩
    · rintro ⟨hc, hn⟩
      exact (B.ned c ((hmem c).mpr hc)).mpr fun p => hn ((fl c).mp p)
/-- coins without a common divisor come to every rest -/
theorem reach {m : Nat} (hm : 0 < m) {ds : List Int} : ∀ (l : List Int) (g : Nat), (∀ c ∈ l, c ∈ ds ∧ 0 ≤ c) → (∃ y, Pays ds y ∧ y % (m : Int) = (g : Int) % (m : Int)) → ∃ y, Pays ds y ∧ y % (m : Int) = ((l.foldl (fun (g : Nat) x => Int.gcd (g : Int) x) g : Nat) : Int) % (m : Int)
  | [], g, _, h => h
  | c :: l, g, hl, ⟨y, hy, hg⟩ => by
    refine reach hm l (Int.gcd (g : Int) c) (fun d hd => hl d (List.mem_cons_of_mem _ hd)) ?_
    obtain ⟨hc, hc0⟩ := hl c List.mem_cons_self
    obtain ⟨u, v, hb⟩ := bezout g c.natAbs
    have e : ((Int.gcd (g : Int) c : Nat) : Int) = (g : Int) * u + c * v := by
      have : Int.gcd (g : Int) c = Nat.gcd g c.natAbs := rfl
      rw [this, hb]
      rw [show ((c.natAbs : Nat) : Int) = c by omega]
    have hu := Int.emod_nonneg u (show (m : Int) ≠ 0 by omega)
    have hv := Int.emod_nonneg v (show (m : Int) ≠ 0 by omega)
    refine ⟨_, (hy.times (u % (m : Int)).toNat).plus ((Pays.one hc).times (v % (m : Int)).toNat), ?_⟩
    rw [show (((u % (m : Int)).toNat : Nat) : Int) = u % (m : Int) by omega, show (((v % (m : Int)).toNat : Nat) : Int) = v % (m : Int) by omega, e]
    have f1 := Int.mul_ediv_add_emod u (m : Int)
    have f2 := Int.mul_ediv_add_emod v (m : Int)
    have f3 := Int.mul_ediv_add_emod y (m : Int)
    have f4 := Int.mul_ediv_add_emod (g : Int) (m : Int)
    rw [hg] at f3
    generalize u % (m : Int) = u' at *
    generalize v % (m : Int) = v' at *
    generalize u / (m : Int) = a at *
    generalize v / (m : Int) = b at *
    generalize y / (m : Int) = A at *
    generalize (g : Int) / (m : Int) = B at *
    generalize (g : Int) % (m : Int) = g' at *
    have : u' * y + v' * c = (g : Int) * u + c * v + (m : Int) * (u' * (A - B) - (g : Int) * a - c * b) := by
      clear hu hv hb e hg hy hc hl
      generalize (g : Int) = G at *
      generalize (m : Int) = M at *
      grind
    rw [this, Int.add_mul_emod_self_left]
theorem rest_some {cs : List Int} {m : Nat} (h : okC cs = true) (S : SysOk cs m) {r : Nat} (hr : r < m) : ∃ x, gt (rs cs) r = some x := by
  obtain ⟨_, _, k3, _, _, k6⟩ := okC_of h
  have hm : 0 < m := S.m1
  obtain ⟨y, hy, he⟩ := reach hm (ds := cs) cs 0 (fun c hc => ⟨hc, by have := k3 c hc; omega⟩) ⟨0, .zero, rfl⟩
  rw [k6] at he
  have p := (S.pays _).mpr (hy.times r)
  obtain ⟨x, hx, _⟩ := S.tab.least _ p _ rfl
  have e : (((r : Int) * y) % (m : Int)).toNat = r := by
    rw [Int.mul_emod, he, ← Int.mul_emod]
    show (((r : Int) * 1) % (m : Int)).toNat = r
    rw [Int.mul_one]
    have : ((r % m : Nat) : Int) = (r : Int) % (m : Int) := Int.natCast_emod ..
    rw [← this, Nat.mod_eq_of_lt hr, Int.toNat_natCast]
  rw [e] at hx
  exact ⟨x, hx⟩
theorem full_ok {cs : List Int} (h : okC cs = true) : fullT cs = true := by
  obtain ⟨m, S⟩ := sys_ok h
  unfold fullT
  rw [List.all_eq_true]
  intro o ho
  obtain ⟨r, hr⟩ := List.getElem?_of_mem ho
  have hlt := (List.getElem?_eq_some_iff.mp hr).1
  rw [S.len] at hlt
  obtain ⟨x, hx⟩ := rest_some h S hlt
  have : gt (rs cs) r = o := by unfold gt; rw [List.getD_eq_getElem?_getD, hr]; rfl
  rw [this] at hx
  rw [hx]
  rfl
/-- the least payable sum of a rest -/
def wt (cs : List Int) (r : Nat) : Int := (gt (rs cs) r).getD 0
theorem wt_ok {cs : List Int} {m : Nat} (h : okC cs = true) (S : SysOk cs m) {r : Nat} (hr : r < m) : gt (rs cs) r = some (wt cs r) ∧ Pays cs (wt cs r) ∧ wt cs r % (m : Int) = (r : Int) ∧ ∀ y, Pays cs y → y % (m : Int) = (r : Int) → wt cs r ≤ y := by
  obtain ⟨x, hx⟩ := rest_some h S hr
  have e : wt cs r = x := by unfold wt; rw [hx]; rfl
  rw [e]
  obtain ⟨p1, p2⟩ := S.tab.sound _ _ hx
  refine ⟨hx, (S.pays x).mp p1, p2, fun y hy hyr => ?_⟩
  obtain ⟨z, hz, hle⟩ := S.tab.least y ((S.pays y).mpr hy) y rfl
  rw [hyr, Int.toNat_natCast, hx] at hz
  cases hz
  exact hle
theorem pays_wt {cs : List Int} {m : Nat} (h : okC cs = true) (S : SysOk cs m) {n : Int} (hn : 0 ≤ n) : Pays cs n ↔ wt cs (n % (m : Int)).toNat ≤ n := by
  have hm : 0 < m := S.m1
  have r0 := Int.emod_nonneg n (show (m : Int) ≠ 0 by omega)
  have r1 := Int.emod_lt_of_pos n (show (0 : Int) < (m : Int) by omega)
  obtain ⟨w1, w2, w3, w4⟩ := wt_ok h S (r := (n % (m : Int)).toNat) (by omega)
  rw [show (((n % (m : Int)).toNat : Nat) : Int) = n % (m : Int) by omega] at w3 w4
  constructor
  · exact fun p => w4 n p rfl
  · intro hle
    generalize wt cs (n % (m : Int)).toNat = w at *
    have h1 := Int.mul_ediv_add_emod w (m : Int)
    have h2 := Int.mul_ediv_add_emod n (m : Int)
    have h3 : w / (m : Int) ≤ n / (m : Int) := Int.ediv_le_ediv (by omega) hle
    have hmc : Pays cs (m : Int) := (S.pays _).mp (.one S.m_in)
    have := w2.plus (hmc.times (n / (m : Int) - w / (m : Int)).toNat)
    rw [show (((n / (m : Int) - w / (m : Int)).toNat : Nat) : Int) = n / (m : Int) - w / (m : Int) by omega, Int.sub_mul, Int.mul_comm _ (m : Int), Int.mul_comm _ (m : Int)] at this
    rw [show n = w + ((m : Int) * (n / (m : Int)) - (m : Int) * (w / (m : Int))) by omega]
    exact this
theorem paysB_iff {cs : List Int} (h : okC cs = true) (n : Int) : paysB cs n = true ↔ Pays cs n := by
  obtain ⟨m, S⟩ := sys_ok h
  have hm : 0 < m := S.m1
  obtain ⟨_, _, k3, _, _, _⟩ := okC_of h
  unfold paysB
  rw [Bool.and_eq_true, decide_eq_true_eq, S.len]
  constructor
  · rintro ⟨h0, h1⟩
    have r1 := Int.emod_lt_of_pos n (show (0 : Int) < (m : Int) by omega)
    have r0 := Int.emod_nonneg n (show (m : Int) ≠ 0 by omega)
    have w1 := (wt_ok h S (r := (n % (m : Int)).toNat) (by omega)).1
    unfold gt at w1
    rw [w1] at h1
    exact (pays_wt h S h0).mpr (of_decide_eq_true h1)
  · intro p
    have h0 := p.nonneg fun c hc => by have := k3 c hc; omega
    refine ⟨h0, ?_⟩
    have r1 := Int.emod_lt_of_pos n (show (0 : Int) < (m : Int) by omega)
    have r0 := Int.emod_nonneg n (show (m : Int) ≠ 0 by omega)
    have w1 := (wt_ok h S (r := (n % (m : Int)).toNat) (by omega)).1
    unfold gt at w1
    rw [w1]
    exact decide_eq_true ((pays_wt h S h0).mp p)
end KK
end

section
set_option Elab.async false
set_option linter.all false
set_option maxRecDepth 100000
set_option maxHeartbeats 1000000
namespace KK
open PySem PySem.Spec PyProof.Rows L2 VL
/-! ### the greatest gap, the number of gaps -/
/-- the least payable sums of all rests -/
def wts (cs : List Int) : List Int := (rs cs).map fun o => o.getD 0
def frobI (cs : List Int) : Int := maxI (wts cs) - ((wts cs).length : Int)
def gapsN (cs : List Int) : Int := ((wts cs).map fun x => x / ((wts cs).length : Int)).sum
theorem wts_len {cs : List Int} : (wts cs).length = (rs cs).length := List.length_map _
theorem rs_D {cs : List Int} (h : okC cs = true) : (rs cs).map oD = (wts cs).map D.int := by
  have hf := List.all_eq_true.mp (full_ok h)
  unfold wts
  rw [List.map_map]
  refine List.map_congr_left fun o ho => ?_
  have := hf o ho
  cases o with
  | none => cases this
  | some x => rfl
theorem wts_at {cs : List Int} {r : Nat} (hr : r < (rs cs).length) : (wts cs)[r]? = some (wt cs r) := by
  unfold wts wt gt
  rw [List.getElem?_map, List.getElem?_eq_getElem hr, List.getD_eq_getElem?_getD, List.getElem?_eq_getElem hr]
  rfl
theorem wts_mem {cs : List Int} {x : Int} (h : x ∈ wts cs) : ∃ r, r < (rs cs).length ∧ x = wt cs r := by
  obtain ⟨r, hr⟩ := List.getElem?_of_mem h
  have hl := (List.getElem?_eq_some_iff.mp hr).1
  rw [wts_len] at hl
  rw [wts_at hl] at hr
  exact ⟨r, hl, (Option.some.inj hr).symm⟩
theorem coin_pos {cs : List Int} (h : okC cs = true) : ∀ c ∈ cs, 1 ≤ c ∧ c ≤ 1000000 := (okC_of h).2.2.1
theorem pays_nonneg {cs : List Int} (h : okC cs = true) {n : Int} (p : Pays cs n) : 0 ≤ n := p.nonneg fun c hc => by have := coin_pos h c hc; omega
theorem frob_max {cs : List Int} {m : Nat} (h : okC cs = true) (S : SysOk cs m) : (∃ r, r < m ∧ maxI (wts cs) = wt cs r) ∧ ∀ r, r < m → wt cs r ≤ maxI (wts cs) := by
  have hm := S.m1
  have hne : wts cs ≠ [] := fun e => by
    have := wts_len (cs := cs)
    rw [e, S.len] at this
    simp at this
    omega
  obtain ⟨m1, m2⟩ := maxI_spec (wts cs) hne
  obtain ⟨r, hr, er⟩ := wts_mem m1
  rw [S.len] at hr
  exact ⟨⟨r, hr, er⟩, fun r hr => m2 _ (List.mem_of_getElem? (wts_at (by rw [S.len]; exact hr)))⟩
theorem int_sub_emod (a b : Int) : (a - b) % b = a % b := by
  have := Int.add_mul_emod_self_left a b (-1)
  rw [show b * -1 = -b by omega] at this
  rw [Int.sub_eq_add_neg]
  exact this
/-- all above it can be paid, it can't -/
theorem frob_ok {cs : List Int} (h : okC cs = true) : -1 ≤ frobI cs ∧ (∀ n, frobI cs < n → Pays cs n) ∧ ¬ Pays cs (frobI cs) := by
  obtain ⟨m, S⟩ := sys_ok h
  have hm := S.m1
  obtain ⟨⟨r, hr, er⟩, hle⟩ := frob_max h S
  obtain ⟨_, w2, w3, w4⟩ := wt_ok h S hr
  have eF : frobI cs = wt cs r - (m : Int) := by
    unfold frobI
    rw [er, wts_len, S.len]
  rw [eF]
  have low : -1 ≤ wt cs r - (m : Int) := by
    obtain ⟨_, a, b, _⟩ := wt_ok h S (r := m - 1) (by omega)
    have h1 := hle (m - 1) (by omega)
    rw [er] at h1
    have h2 := pays_nonneg h a
    have h3 := Int.mul_ediv_add_emod (wt cs (m - 1)) (m : Int)
    have h4 := Int.mul_nonneg (show (0 : Int) ≤ (m : Int) by omega) (Int.ediv_nonneg h2 (show (0 : Int) ≤ (m : Int) by omega))
    rw [b] at h3
    omega
  refine ⟨low, fun n hn => ?_, fun p => ?_⟩
  · have n0 : 0 ≤ n := by omega
    have r0 := Int.emod_nonneg n (show (m : Int) ≠ 0 by omega)
    have r1 := Int.emod_lt_of_pos n (show (0 : Int) < (m : Int) by omega)
    rw [pays_wt h S n0]
    obtain ⟨_, _, v3, _⟩ := wt_ok h S (r := (n % (m : Int)).toNat) (by omega)
    have v1 := hle (n % (m : Int)).toNat (by omega)
    rw [er] at v1
    rw [show (((n % (m : Int)).toNat : Nat) : Int) = n % (m : Int) by omega] at v3
    generalize wt cs (n % (m : Int)).toNat = w at v1 v3 ⊢
    generalize wt cs r = W at *
    have f1 := Int.mul_ediv_add_emod n (m : Int)
    have f2 := Int.mul_ediv_add_emod w (m : Int)
    rw [v3] at f2
    refine Int.not_lt.mp fun hlt => ?_
    have : n / (m : Int) < w / (m : Int) := by
      refine Int.not_le.mp fun hle => ?_
      have := Int.mul_le_mul_of_nonneg_left hle (show (0 : Int) ≤ (m : Int) by omega)
      omega
    have h5 := Int.mul_le_mul_of_nonneg_left (show n / (m : Int) + 1 ≤ w / (m : Int) by omega) (show (0 : Int) ≤ (m : Int) by omega)
    rw [Int.mul_add, Int.mul_one] at h5
    omega
  · have := w4 _ p (by rw [int_sub_emod]; exact w3)
    omega
/-! ### counting -/
open Classical in
/-- how many of the first numbers have it -/
noncomputable def cntTo (P : Int → Prop) (n : Nat) : Int := sumTo (fun i => if P (i : Nat) then 1 else 0) n
theorem sumTo_zero : ∀ n, sumTo (fun _ => (0 : Int)) n = 0
  | 0 => rfl
  | n + 1 => by show sumTo _ n + 0 = 0; rw [sumTo_zero n]; rfl
theorem sumTo_tail (f : Nat → Int) (a : Nat) : ∀ b, sumTo f (a + b) = sumTo f a + sumTo (fun i => f (a + i)) b
  | 0 => by show sumTo f a = sumTo f a + 0; omega
  | b + 1 => by
    show sumTo f (a + b) + f (a + b) = sumTo f a + (sumTo (fun i => f (a + i)) b + f (a + b))
    rw [sumTo_tail f a b]
    omega
theorem sumTo_grid (f : Nat → Int) (m : Nat) : ∀ T, sumTo f (T * m) = sumTo (fun q => sumTo (fun r => f (q * m + r)) m) T
  | 0 => by rw [Nat.zero_mul]; rfl
  | T + 1 => by
    rw [Nat.succ_mul, sumTo_tail, sumTo_grid f m T]
    rfl
theorem sumTo_below {k : Int} : ∀ T : Nat, 0 ≤ k → k ≤ (T : Int) → sumTo (fun q => if (q : Int) < k then 1 else 0) T = k
  | 0, h0, h1 => by show (0 : Int) = k; omega
  | T + 1, h0, h1 => by
    show sumTo _ T + (if (T : Int) < k then 1 else 0) = k
    by_cases hk : k ≤ (T : Int)
    · rw [sumTo_below T h0 hk, if_neg (by omega)]; omega
    · have : k = (T : Int) + 1 := by omega
      subst this
      have e : sumTo (fun q => if (q : Int) < (T : Int) + 1 then (1 : Int) else 0) T = sumTo (fun _ => 1) T := sumTo_congr T fun t ht => by rw [if_pos (by omega)]
      rw [e, sumTo_one, if_pos (by omega)]
theorem sum_wts {f : Int → Int} {cs : List Int} {m : Nat} (S : SysOk cs m) : ((wts cs).map f).sum = sumTo (fun r => f (wt cs r)) m := by
  have e : (wts cs).map f = (List.range m).map fun r => f (wt cs r) := by
    refine List.ext_getElem? fun i => ?_
    rw [List.getElem?_map, List.getElem?_map]
    by_cases hi : i < m
    · rw [wts_at (by rw [S.len]; exact hi), List.getElem?_range hi]; rfl
    · rw [List.getElem?_eq_none (by rw [wts_len, S.len]; omega), List.getElem?_eq_none (by rw [List.length_range]; omega)]; rfl
  rw [e, sum_sumTo]
open Classical in
theorem gap_count {cs : List Int} (h : okC cs = true) {P : Int → Prop} (hP : ∀ n : Int, P n ↔ ¬ Pays cs n) {N : Nat} (hN : frobI cs < (N : Int)) : cntTo P N = gapsN cs := by
  obtain ⟨m, S⟩ := sys_ok h
  have hm := S.m1
  have full := frob_ok h
  -- up to a multiple of m
  have ext : ∀ k, cntTo P (N + k) = cntTo P N := fun k => by
    unfold cntTo
    rw [sumTo_tail]
    have : VL.sumTo (fun i => if P ((N + i : Nat) : Int) then (1 : Int) else 0) k = VL.sumTo (fun _ => 0) k := sumTo_congr k fun t _ => if_neg fun z => (hP _).mp z (full.2.1 _ (by omega))
    have h0 := this.trans (sumTo_zero k)
    show _ + VL.sumTo (fun i => if P ((N + i : Nat) : Int) then (1 : Int) else 0) k = _
    rw [h0]
    omega
  obtain ⟨⟨r0, hr0, er0⟩, hle⟩ := frob_max h S
  have hT : ∃ T : Nat, N ≤ T * m ∧ ∀ r, r < m → wt cs r / (m : Int) ≤ (T : Int) := by
    refine ⟨N + (maxI (wts cs)).toNat, ?_, fun r hr => ?_⟩
    · have : N * 1 ≤ N * m := Nat.mul_le_mul_left N hm
      rw [Nat.add_mul]
      omega
    · have h1 := hle r hr
      have h2 := pays_nonneg h (wt_ok h S hr).2.1
      have h3 := Int.ediv_le_self (m : Int) h2
      omega
  obtain ⟨T, hT1, hT2⟩ := hT
  rw [← ext (T * m - N), show N + (T * m - N) = T * m by omega]
  unfold cntTo gapsN
  rw [sumTo_grid, sum_wts S]
  show VL.sumTo (fun q => VL.sumTo (fun r => (fun r q => if P ((q * m + r : Nat) : Int) then (1 : Int) else 0) r q) m) T = _
  rw [sumTo_swap (fun r q => if P ((q * m + r : Nat) : Int) then (1 : Int) else 0) m T]
  refine sumTo_congr m fun r hr => ?_
  rw [wts_len, S.len]
  obtain ⟨_, w2, w3, _⟩ := wt_ok h S hr
  have w0 := pays_nonneg h w2
  rw [← sumTo_below T (Int.ediv_nonneg w0 (show (0 : Int) ≤ (m : Int) by omega)) (hT2 r hr)]
  refine sumTo_congr T fun q _ => ?_
  have e : ((q * m + r : Nat) : Int) % (m : Int) = (r : Int) := by
    have : (((q * m + r) % m : Nat) : Int) = ((q * m + r : Nat) : Int) % (m : Int) := Int.natCast_emod ..
    rw [← this, Nat.mul_comm, Nat.mul_add_mod, Nat.mod_eq_of_lt hr]
  have key : P ((q * m + r : Nat) : Int) ↔ (q : Int) < wt cs r / (m : Int) := by
    rw [hP, pays_wt h S (by omega), e, Int.toNat_natCast]
    generalize wt cs r = w at *
    have f2 := Int.mul_ediv_add_emod w (m : Int)
    rw [w3] at f2
    push_cast
    constructor
    · intro hn
      refine Int.not_le.mp fun hq => hn ?_
      have := Int.mul_le_mul_of_nonneg_right hq (show (0 : Int) ≤ (m : Int) by omega)
      rw [Int.mul_comm] at this
      omega
    · intro hq hn
      have := Int.mul_le_mul_of_nonneg_right (show (q : Int) + 1 ≤ w / (m : Int) by omega) (show (0 : Int) ≤ (m : Int) by omega)
      rw [Int.mul_comm (w / (m : Int)), Int.add_mul, Int.one_mul] at this
      omega
  by_cases hq : (q : Int) < wt cs r / (m : Int)
  · rw [if_pos (key.mpr hq), if_pos hq]
  · rw [if_neg (fun z => hq (key.mp z)), if_neg hq]
theorem wts_pos {cs : List Int} (h : okC cs = true) : 0 < (wts cs).length ∧ (wts cs).length ≤ 2000 := by
  obtain ⟨m, S⟩ := sys_ok h
  rw [wts_len, S.len]
  exact ⟨S.m1, S.m2⟩
end KK
end

section
set_option Elab.async false
set_option linter.all false
set_option maxRecDepth 100000
set_option maxHeartbeats 4000000
namespace KK
open PySem PySem.Spec PyProof.Rows L2 VL
abbrev s_pays : Stmt := topS 22
abbrev N_pays : List Str := ["system", "number"]
theorem sc_pays : FnScope N_pays ["system", "number"] (defScope s_pays) := ⟨rfl, rfl, rfl, by decide +kernel, rfl, by decide +kernel, by decide +kernel⟩
variable {P : Program} {w : World} {K : PySem.W.Frag} {mg : Str → Option Value} {base : Heap} {f aCoinError aBadNumber aNoSystem aBadCoins aTooMany aSystem : Addr} {fd : FuncData}
def A_pays (C : Addr) (ds : List D) (r : Res) : Prop := ∃ (cs : List Int) (n : Int), ds = [sysD C cs, .int n] ∧ okC cs = true ∧ r = .ok (.bl (paysB cs n))
theorem ok_pays (T : Blt mg) (F_check_sum : FnV P w K mg base 2 "check_sum" (detS (A_check_sum aSystem aNoSystem aBadNumber))) (F_pays_of : FnV P w K mg base 1 "pays_of" (detS (A_pays_of aSystem))) (Fu : Fun K "pays" "pays" s_pays f fd) (hb : Binds K fd ["system", "number"] []) (hm : mg "pays" = some (.ref f)) : FnV P w K mg base 3 "pays" (detS (A_pays aSystem)) := by
  refine fn_pure (k := 2) Fu sc_pays hb hm (fun ds r ⟨cs, n, e, _⟩ => by subst e; rfl) fun cdv A' outer s H E hr B ds r ⟨cs, n, e, ho, er⟩ => ?_
  subst e er
  refine css_exprR (r := .ok .non) (q_callD F_check_sum (hr.mono (by decide)) (d_cons (c_var 0) (d_cons (c_var 1) d_nil)) ⟨_, _, rfl, rfl, .inl ⟨cs, rfl, rfl⟩⟩) (fun _ _ => ?_) (fun _ h => by cases h)
  exact css_ret (c_call F_pays_of (hr.mono (by decide)) (d_cons (c_var 0) (d_cons (c_var 1) d_nil)) (fun R h => ⟨_, _, rfl, ⟨cs, n, rfl, ho, full_ok ho, rfl⟩, h⟩)) rfl
end KK
end

section
set_option Elab.async false
set_option linter.all false
set_option maxRecDepth 100000
set_option maxHeartbeats 4000000
namespace KK
open PySem PySem.Spec PyProof.Rows L2 VL
abbrev s_needed : Stmt := topS 23
abbrev N_needed : List Str := ["system"]
theorem sc_needed : FnScope N_needed ["system"] (defScope s_needed) := ⟨rfl, rfl, rfl, by decide +kernel, rfl, by decide +kernel, by decide +kernel⟩
variable {P : Program} {w : World} {K : PySem.W.Frag} {mg : Str → Option Value} {base : Heap} {f aCoinError aBadNumber aNoSystem aBadCoins aTooMany aSystem : Addr} {fd : FuncData}
def A_needed (C : Addr) (ds : List D) (r : Res) : Prop := ∃ cs : List Int, ds = [sysD C cs] ∧ r = .ok (.tup ((nd cs).map D.int))
theorem ok_needed (T : Blt mg) (S_System : SysC K mg aSystem) (F_check_system : FnV P w K mg base 1 "check_system" (detS (A_check_system aSystem aNoSystem))) (Fu : Fun K "needed" "needed" s_needed f fd) (hb : Binds K fd ["system"] []) (hm : mg "needed" = some (.ref f)) : FnV P w K mg base 2 "needed" (detS (A_needed aSystem)) := by
  refine fn_pure (k := 1) Fu sc_needed hb hm (fun ds r ⟨cs, e, _⟩ => by subst e; rfl) fun cdv A' outer s H E hr B ds r ⟨cs, e, er⟩ => ?_
  subst e er
  refine css_exprR (r := .ok .non) (q_callD F_check_system (hr.mono (by decide)) (d_cons (c_var 0) d_nil) (.inl ⟨cs, rfl, rfl⟩)) (fun _ _ => ?_) (fun _ h => by cases h)
  exact css_ret (c_fld S_System.o.i.cl S_System.n2 (c_var 0)) rfl
end KK
end

section
set_option Elab.async false
set_option linter.all false
set_option maxRecDepth 100000
set_option maxHeartbeats 4000000
namespace KK
open PySem PySem.Spec PyProof.Rows L2 VL
abbrev s_gaps_number_of : Stmt := topS 25
abbrev N_gaps_number_of : List Str := ["system", "many", "item"]
theorem sc_gaps_number_of : FnScope N_gaps_number_of ["system"] (defScope s_gaps_number_of) := ⟨rfl, rfl, rfl, by decide +kernel, rfl, by decide +kernel, by decide +kernel⟩
variable {P : Program} {w : World} {K : PySem.W.Frag} {mg : Str → Option Value} {base : Heap} {f aCoinError aBadNumber aNoSystem aBadCoins aTooMany aSystem : Addr} {fd : FuncData}
def A_gaps_number (C : Addr) (ds : List D) (r : Res) : Prop := ∃ cs : List Int, ds = [sysD C cs] ∧ okC cs = true ∧ r = .ok (.int (gapsN cs))
theorem ok_gaps_number_of (T : Blt mg) (S_System : SysC K mg aSystem) (Fu : Fun K "gaps_number_of" "gaps_number_of" s_gaps_number_of f fd) (hb : Binds K fd ["system"] []) (hm : mg "gaps_number_of" = some (.ref f)) : FnV P w K mg base 1 "gaps_number_of" (detS (A_gaps_number aSystem)) := by
  refine fn_pure (k := 0) Fu sc_gaps_number_of hb hm (fun ds r ⟨cs, e, _⟩ => by subst e; rfl) fun cdv A' outer s H E hr B ds r ⟨cs, e, ho, er⟩ => ?_
  subst e er
  obtain ⟨w1, w2⟩ := wts_pos ho
  refine css_asg 1 B (CE.eq (y := .int ((wts cs).length : Int)) (c_lenT T.len (c_fld S_System.o.i.cl S_System.n3 (c_var 0))) (by rw [rs_D ho, List.length_map])) ?_
  refine css_ret (c_sumL B.calm T.sum (ns := (wts cs).map fun x => x / ((wts cs).length : Int)) (CE.eq (CN.ce (n_lc0 (T := .nm 2) (fun d => match d with | .int x => .int (x / ((wts cs).length : Int)) | _ => .non) (ci_tup (CE.eq (c_fld S_System.o.i.cl S_System.n3 (c_var 0)) (congrArg D.tup (rs_D ho)))) [("item", 2)] B (blkOk_by (N := N_gaps_number_of) (sc := defScope s_gaps_number_of) (by decide +kernel)) (fun _ _ _ _ _ => tg_nm 2 B.nd) (by decide) (fun k p ds hk h => by rcases List.mem_singleton.mp hk with rfl; cases h) (fun i d hd => ?_) (szl (by rw [List.length_map]; omega)))) (by rw [List.map_map, List.map_map]; rfl))) rfl
  obtain ⟨x, _, rfl⟩ := List.mem_map.mp (List.mem_of_getElem? hd)
  exact ⟨_, .nm, (fun k p es h => by rcases k with _ | _ | _ | k <;> cases h), fun _ _ _ _ _ => c_div (c_var 2) (c_var 1) ⟨by omega, by omega⟩⟩
end KK
end

section
set_option Elab.async false
set_option linter.all false
set_option maxRecDepth 100000
set_option maxHeartbeats 4000000
namespace KK
open PySem PySem.Spec PyProof.Rows L2 VL
abbrev s_gaps_number : Stmt := topS 26
abbrev N_gaps_number : List Str := ["system"]
theorem sc_gaps_number : FnScope N_gaps_number ["system"] (defScope s_gaps_number) := ⟨rfl, rfl, rfl, by decide +kernel, rfl, by decide +kernel, by decide +kernel⟩
variable {P : Program} {w : World} {K : PySem.W.Frag} {mg : Str → Option Value} {base : Heap} {f aCoinError aBadNumber aNoSystem aBadCoins aTooMany aSystem : Addr} {fd : FuncData}
theorem ok_gaps_number (T : Blt mg) (S_System : SysC K mg aSystem) (F_check_system : FnV P w K mg base 1 "check_system" (detS (A_check_system aSystem aNoSystem))) (F_gaps_number_of : FnV P w K mg base 1 "gaps_number_of" (detS (A_gaps_number aSystem))) (Fu : Fun K "gaps_number" "gaps_number" s_gaps_number f fd) (hb : Binds K fd ["system"] []) (hm : mg "gaps_number" = some (.ref f)) : FnV P w K mg base 2 "gaps_number" (detS (A_gaps_number aSystem)) := by
  refine fn_pure (k := 1) Fu sc_gaps_number hb hm (fun ds r ⟨cs, e, _⟩ => by subst e; rfl) fun cdv A' outer s H E hr B ds r ⟨cs, e, ho, er⟩ => ?_
  subst e er
  refine css_exprR (r := .ok .non) (q_callD F_check_system (hr.mono (by decide)) (d_cons (c_var 0) d_nil) (.inl ⟨cs, rfl, rfl⟩)) (fun _ _ => ?_) (fun _ h => by cases h)
  exact css_ret (c_call (d := .int (gapsN cs)) F_gaps_number_of (hr.mono (by decide)) (d_cons (c_var 0) d_nil) (fun R h => ⟨_, _, rfl, ⟨cs, rfl, ho, rfl⟩, h⟩)) rfl
end KK
end

section
set_option Elab.async false
set_option linter.all false
set_option maxRecDepth 100000
set_option maxHeartbeats 1000000
namespace KK
open PySem PySem.Spec PyProof.Rows L2 VL
/-- a datum's number -/
def iv : D → Int
  | .int i => i
  | _ => 0
theorem within_iv {d : D} {lo hi : Int} (h : within d lo hi = true) : d = .int (iv d) ∧ lo ≤ iv d ∧ iv d ≤ hi := by
  cases d <;> first | exact Bool.noConfusion h | skip
  rename_i i
  have h : (decide (lo ≤ i) && decide (i ≤ hi)) = true := h
  rw [Bool.and_eq_true, decide_eq_true_eq, decide_eq_true_eq] at h
  exact ⟨rfl, h.1, h.2⟩
theorem within_of {i lo hi : Int} (h1 : lo ≤ i) (h2 : i ≤ hi) : within (.int i) lo hi = true := by
  show (decide (lo ≤ i) && decide (i ≤ hi)) = true
  rw [decide_eq_true h1, decide_eq_true h2]
  rfl
/-- told, where all is right; else an error without a word -/
def okR (b : Bool) (r : Res) (a : Addr) : Res := if b then r else .error ⟨a, []⟩
theorem okR_t {b : Bool} {r : Res} {a : Addr} (h : b = true) : okR b r a = r := by unfold okR; rw [if_pos h]
theorem okR_f {b : Bool} {r : Res} {a : Addr} (h : b = false) : okR b r a = .error ⟨a, []⟩ := by unfold okR; rw [h]; rfl
theorem css_check {X : Cx} {c : Expr} {b : Bool} {ρ : Lo} {W : WE} {rest : List Stmt} {x : Str} {C : Addr} {p pos rp pos2 : Pos} (hc : CT X ρ c (!b) ρ) (B : Bd X) (T : Xc X x C) (he : b = false → W.er ⟨C, []⟩ ρ) (k : b = true → CSs X ρ rest W) (hg : Gl X x := by rfl) (hdb : (x == ("__debug__" : Str)) = false := by decide) :
    CSs X ρ (.If c [.Raise (some (.Call (.Name x p) [] [] pos)) none rp] [] pos2 :: rest) W :=
  css_if hc (fun h => css_raise0 B T (he (by cases b <;> first | rfl | cases h)) hg hdb) (fun h => css_nil (k (by cases b <;> first | rfl | cases h)))
theorem or2 {a b : Bool} : (!a || !b) = !(a && b) := by cases a <;> cases b <;> rfl
theorem or3 {a b c : Bool} : (!a || (!b || !c)) = !(a && b && c) := by cases a <;> cases b <;> cases c <;> rfl
/-- no own list -/
def nmS : Sl → Bool
  | .mut _ _ => false
  | _ => true
theorem lg2 {x : Int} {b : Nat} (hb : 0 < b) (h : x.natAbs < 2 ^ b) : x.natAbs.log2 < b := by
  by_cases h0 : x.natAbs = 0
  · rw [h0]; exact hb
  · exact (Nat.log2_lt h0).mpr h
end KK
end

section
set_option Elab.async false
set_option linter.all false
set_option maxRecDepth 100000
set_option maxHeartbeats 1000000
namespace KK
open PySem PySem.Spec PyProof.Rows L2 VL
/-! ### gaps up to a bound -/
open Classical in
noncomputable def payB (cs : List Int) (n : Int) : Bool := decide (Pays cs n)
open Classical in
theorem payB_iff {cs : List Int} {n : Int} : payB cs n = true ↔ Pays cs n := by unfold payB; exact ⟨fun h => @of_decide_eq_true _ _ h, fun h => @decide_eq_true _ _ h⟩
open Classical in
theorem payB_f {cs : List Int} {n : Int} : payB cs n = false ↔ ¬ Pays cs n := by unfold payB; exact ⟨fun h => @of_decide_eq_false _ _ h, fun h => @decide_eq_false _ _ h⟩
noncomputable def gapsTo (cs : List Int) (b : Nat) : List Int := (rangeI 1 b).filter fun n => !payB cs n
theorem rangeI_succ (lo : Int) (n : Nat) : rangeI lo (n + 1) = rangeI lo n ++ [lo + n] := by
  unfold rangeI
  rw [List.range_succ, List.map_append]
  rfl
theorem rangeI_mem {lo : Int} {n : Nat} {x : Int} : x ∈ rangeI lo n ↔ lo ≤ x ∧ x < lo + n := by
  unfold rangeI
  rw [List.mem_map]
  constructor
  · rintro ⟨k, hk, rfl⟩
    rw [List.mem_range] at hk
    omega
  · rintro ⟨h1, h2⟩
    exact ⟨(x - lo).toNat, List.mem_range.mpr (by omega), by omega⟩
theorem rangeI_lt {lo : Int} {n : Nat} : (rangeI lo n).Pairwise (· < ·) := by
  unfold rangeI
  rw [List.pairwise_map]
  exact List.pairwise_lt_range.imp fun h => by omega
theorem rangeI_nodup {lo : Int} {n : Nat} : (rangeI lo n).Nodup := rangeI_lt.imp fun h => by omega
theorem gapsTo_succ (cs : List Int) (b : Nat) : gapsTo cs (b + 1) = if payB cs (1 + ((b : Nat) : Int)) then gapsTo cs b else gapsTo cs b ++ [1 + ((b : Nat) : Int)] := by
  unfold gapsTo
  rw [rangeI_succ, List.filter_append, List.filter_cons]
  cases payB cs (1 + ((b : Nat) : Int)) <;> simp
theorem gapsTo_mem {cs : List Int} {b : Nat} {n : Int} : n ∈ gapsTo cs b ↔ (1 ≤ n ∧ n ≤ (b : Int)) ∧ ¬ Pays cs n := by
  unfold gapsTo
  rw [List.mem_filter, rangeI_mem, Bool.not_eq_true', payB_f]
  constructor
  · rintro ⟨⟨h1, h2⟩, h3⟩; exact ⟨⟨h1, by omega⟩, h3⟩
  · rintro ⟨⟨h1, h2⟩, h3⟩; exact ⟨⟨h1, by omega⟩, h3⟩
theorem pays_step {cs : List Int} (hc : ∀ c ∈ cs, 1 ≤ c) {n : Int} (hn : 1 ≤ n) : Pays cs n ↔ ∃ c ∈ cs, c ≤ n ∧ Pays cs (n - c) := by
  constructor
  · intro p
    cases p with
    | zero => omega
    | @add m c h p =>
      refine ⟨c, h, ?_, by rw [Int.add_sub_cancel]; exact p⟩
      have := p.nonneg fun c hc' => by have := hc c hc'; omega
      omega
  · rintro ⟨c, h, _, p⟩
    have := p.add h
    rwa [Int.sub_add_cancel] at this
/-- the flags behind so many turns -/
noncomputable def flagsL (cs : List Int) (b i : Nat) : List Bool := (List.range (b + 1)).map fun k => decide (k ≤ i) && payB cs (k : Nat)
theorem flags_at {cs : List Int} {b i k : Nat} (hk : k ≤ b) : (flagsL cs b i)[k]? = some (decide (k ≤ i) && payB cs (k : Nat)) := by
  unfold flagsL
  rw [List.getElem?_map, List.getElem?_range (by omega)]
  rfl
theorem flags_len {cs : List Int} {b i : Nat} : (flagsL cs b i).length = b + 1 := by unfold flagsL; rw [List.length_map, List.length_range]
theorem flags_start (cs : List Int) (b : Nat) : [true] ++ List.replicate b false = flagsL cs b 0 := by
  refine List.ext_getElem? fun k => ?_
  by_cases hk : k ≤ b
  · rw [flags_at hk]
    cases k with
    | zero =>
      rw [show payB cs ((0 : Nat) : Int) = true from payB_iff.mpr .zero]
      rfl
    | succ k =>
      rw [List.getElem?_append_right (by simp), List.getElem?_replicate, if_pos (by simp; omega)]
      rfl
  · rw [List.getElem?_eq_none (by simp; omega), List.getElem?_eq_none (by rw [flags_len]; omega)]
theorem flags_set {cs : List Int} {b i : Nat} (hi : i < b) : (flagsL cs b i).set (i + 1) (payB cs ((i + 1 : Nat) : Int)) = flagsL cs b (i + 1) := by
  refine List.ext_getElem? fun k => ?_
  by_cases hk : k ≤ b
  · by_cases e : i + 1 = k
    · subst e
      rw [List.getElem?_set_self (by rw [flags_len]; omega), flags_at hk, decide_eq_true (Nat.le_refl _), Bool.true_and]
    · rw [List.getElem?_set_ne e, flags_at hk, flags_at hk]
      congr 2
      exact decide_eq_decide.mpr (by omega)
  · rw [List.getElem?_eq_none (by rw [List.length_set, flags_len]; omega), List.getElem?_eq_none (by rw [flags_len]; omega)]
/-- the any of a turn -/
theorem any_step {cs : List Int} (hc : ∀ c ∈ cs, 1 ≤ c) {b i : Nat} (hi : i < b) : (cs.map fun c => decide (c ≤ ((i + 1 : Nat) : Int)) && (flagsL cs b i).getD (((i + 1 : Nat) : Int) - c).toNat false).any id = payB cs ((i + 1 : Nat) : Int) := by
  have key : ∀ c ∈ cs, (decide (c ≤ ((i + 1 : Nat) : Int)) && (flagsL cs b i).getD (((i + 1 : Nat) : Int) - c).toNat false) = true ↔ (c ≤ ((i + 1 : Nat) : Int) ∧ Pays cs (((i + 1 : Nat) : Int) - c)) := fun c h => by
    have h1 := hc c h
    rw [Bool.and_eq_true, decide_eq_true_eq]
    refine and_congr_right fun hle => ?_
    obtain ⟨k, hk⟩ := nat_of (show 0 ≤ ((i + 1 : Nat) : Int) - c by omega)
    rw [hk, Int.toNat_natCast, List.getD_eq_getElem?_getD, flags_at (by omega), Option.getD_some, decide_eq_true (by omega), Bool.true_and]
    exact payB_iff
  cases e : payB cs ((i + 1 : Nat) : Int) with
  | true =>
    obtain ⟨c, h, h2⟩ := (pays_step hc (by omega)).mp (payB_iff.mp e)
    rw [List.any_map]
    exact List.any_eq_true.mpr ⟨c, h, (key c h).mpr h2⟩
  | false =>
    rw [List.any_map]
    refine List.any_eq_false.mpr fun c h hh => payB_f.mp e ?_
    exact (pays_step hc (by omega)).mpr ⟨c, h, (key c h).mp hh⟩
/-! ### of a system, all gaps -/
open Classical in
theorem cntTo_succ (P : Int → Prop) (n : Nat) : cntTo P (n + 1) = cntTo P n + (if P (n : Nat) then 1 else 0) := rfl
theorem cntB_succ (P : Int → Bool) (n : Nat) : cntTo (fun n => P n = true) (n + 1) = cntTo (fun n => P n = true) n + (if P (n : Nat) = true then 1 else 0) := by
  rw [cntTo_succ]
  by_cases h : P (n : Nat) = true
  · rw [if_pos h, if_pos h]
  · rw [if_neg h, if_neg h]
theorem cntTo_zero (P : Int → Prop) : cntTo P 0 = 0 := rfl
theorem rangeI_cnt {P : Int → Bool} : ∀ b : Nat, (((rangeI 1 b).filter P).length : Int) = cntTo (fun n => P n = true) (b + 1) - (if P 0 = true then 1 else 0)
  | 0 => by
    rw [cntB_succ, cntTo_zero]
    show (0 : Int) = 0 + (if P 0 = true then 1 else 0) - (if P 0 = true then 1 else 0)
    omega
  | b + 1 => by
    rw [rangeI_succ, List.filter_append, List.length_append]
    have ih := rangeI_cnt (P := P) b
    have e := cntB_succ P (b + 1)
    rw [e]
    have e2 : (1 : Int) + (b : Nat) = ((b + 1 : Nat) : Int) := by omega
    rw [e2, List.filter_cons]
    by_cases h : P ((b + 1 : Nat) : Int) = true
    · rw [if_pos h, if_pos h, List.filter_nil, List.length_singleton]; omega
    · rw [if_neg h, if_neg h, List.filter_nil, List.length_nil]; omega
theorem gapsTo_ok {cs : List Int} (h : okC cs = true) {b : Nat} (hb : frobI cs ≤ (b : Int)) : ((gapsTo cs b).length : Int) = gapsN cs ∧ (∀ n, 0 ≤ n → (n ∈ gapsTo cs b ↔ ¬ Pays cs n)) ∧ (gapsTo cs b = [] ↔ frobI cs = -1) ∧ (gapsTo cs b ≠ [] → (gapsTo cs b)[(gapsTo cs b).length - 1]? = some (frobI cs)) := by
  obtain ⟨f1, f2, f3⟩ := frob_ok h
  have mem : ∀ n, 0 ≤ n → (n ∈ gapsTo cs b ↔ ¬ Pays cs n) := fun n hn => by
    rw [gapsTo_mem]
    refine ⟨fun z => z.2, fun z => ⟨⟨?_, ?_⟩, z⟩⟩
    · refine Int.not_lt.mp fun hlt => z ?_
      have : n = 0 := by omega
      rw [this]
      exact .zero
    · exact Int.not_lt.mp fun hlt => z (f2 n (by omega))
  have f0 : frobI cs ≠ 0 := fun e => f3 (by rw [e]; exact .zero)
  have hnil : gapsTo cs b = [] ↔ frobI cs = -1 := by
    constructor
    · intro e
      refine Classical.byContradiction fun hne => ?_
      have := (mem (frobI cs) (by omega)).mpr f3
      rw [e] at this
      cases this
    · intro e
      refine List.eq_nil_iff_forall_not_mem.mpr fun n hn => ?_
      obtain ⟨⟨h1, _⟩, h3⟩ := gapsTo_mem.mp hn
      exact h3 (f2 n (by omega))
  refine ⟨?_, mem, hnil, fun hne => ?_⟩
  · unfold gapsTo
    rw [rangeI_cnt b]
    rw [gap_count h (P := fun n => (!payB cs n) = true) (fun n => by rw [Bool.not_eq_true', payB_f]) (N := b + 1) (by omega)]
    rw [show payB cs 0 = true from payB_iff.mpr .zero]
    simp
  · have hpos : 0 < (gapsTo cs b).length := List.length_pos_iff.mpr hne
    have hsrt : (gapsTo cs b).Pairwise (· < ·) := rangeI_lt.filter _
    have hf : frobI cs ∈ gapsTo cs b := (mem _ (by have h9 : ¬ frobI cs = -1 := fun e => hne (hnil.mpr e); omega)).mpr f3
    obtain ⟨k, hk⟩ := List.getElem?_of_mem hf
    obtain ⟨hk1, hk2⟩ := List.getElem?_eq_some_iff.mp hk
    have hl : (gapsTo cs b).length - 1 < (gapsTo cs b).length := by omega
    rw [List.getElem?_eq_getElem hl]
    have hm := gapsTo_mem.mp (List.getElem_mem hl)
    have hle : (gapsTo cs b)[(gapsTo cs b).length - 1] ≤ frobI cs := Int.not_lt.mp fun z => hm.2 (f2 _ z)
    by_cases e : k = (gapsTo cs b).length - 1
    · subst e; rw [hk2]
    · have := List.pairwise_iff_getElem.mp hsrt k _ hk1 hl (by omega)
      rw [hk2] at this
      omega
/-- what marks the greatest gap -/
theorem frob_uniq {cs : List Int} (h : okC cs = true) {x : Int} (h1 : ¬ Pays cs x) (h2 : ∀ n, x < n → Pays cs n) : frobI cs = x := by
  obtain ⟨_, f2, f3⟩ := frob_ok h
  have a : ¬ frobI cs < x := fun z => h1 (f2 x z)
  have b : ¬ x < frobI cs := fun z => f3 (h2 _ z)
  omega
theorem lt_uniq : ∀ {xs ys : List Int}, xs.Pairwise (· < ·) → ys.Pairwise (· < ·) → (∀ x, x ∈ xs ↔ x ∈ ys) → xs = ys := fun {xs ys} h1 h2 hm => by
  refine srt_uniq ?_ (h1.imp fun h => Int.le_of_lt h) (h2.imp fun h => Int.le_of_lt h)
  exact (List.perm_ext_iff_of_nodup (h1.imp fun h => by omega) (h2.imp fun h => by omega)).mpr hm
end KK
end

section
set_option Elab.async false
set_option linter.all false
set_option maxRecDepth 100000
set_option maxHeartbeats 1000000
namespace KK
open PySem PySem.Spec PyProof.Rows L2 VL
/-! ### ladders: what the closed forms say -/
def sPays (f m n : Int) : Bool := decide (n % f ≤ n / f * m)
def sTurns (f m : Int) : Int := -(-(f - 1) / m)
def sGreat (f m : Int) : Int := sTurns f m * f - 1
def sGaps (f m : Int) : Int := sTurns f m * (f - 1) - m * sTurns f m * (sTurns f m - 1) / 2
def onesN (b : Int) (n : Nat) : Int := (b ^ n - 1) / (b - 1)
def onesL (b : Int) (n : Nat) : List Int := (List.range n).map fun k => onesN b (n + k)
def onesG (b : Int) (n : Nat) : Int := if 1 < n then (b ^ n - 1) / (b - 1) * b ^ n - 1 else -1
def mixL (a b : Int) (n : Nat) : List Int := (List.range (n + 1)).map fun k => a ^ k * b ^ (n - k)
def mixP (a b : Int) (n : Nat) : List Int := sortI (mixL a b n)
def mixT (a b : Int) (n : Nat) : Nat → Int
  | 0 => -(a ^ n)
  | k + 1 => mixT a b n k + (a - 1) * a ^ (n - (k + 1)) * b ^ (k + 1)
def mixG (a b : Int) (n : Nat) : Int := if (mixP a b n).getD 0 0 = 1 then -1 else mixT a b n n
def growT (a b : Int) : Nat → Int
  | 0 => a
  | 1 => b
  | k + 2 => growT a b (k + 1) + growT a b k
def growL (a b : Int) (n : Nat) : List Int := (List.range n).map (growT a b)
theorem growT_in {a b : Int} {M : Int} (ha : 0 ≤ a ∧ a ≤ M) (hb : 0 ≤ b ∧ b ≤ M) : ∀ k, (0 ≤ growT a b k ∧ growT a b k ≤ M * 2 ^ k) ∧ 0 ≤ growT a b (k + 1) ∧ growT a b (k + 1) ≤ M * 2 ^ (k + 1)
  | 0 => by
    have h1 : growT a b 0 = a := rfl
    have h2 : growT a b (0 + 1) = b := rfl
    rw [h1, h2]
    omega
  | k + 1 => by
    obtain ⟨⟨h1, h2⟩, h3, h4⟩ := growT_in ha hb k
    refine ⟨⟨h3, h4⟩, ?_⟩
    have e : growT a b (k + 1 + 1) = growT a b (k + 1) + growT a b k := rfl
    have e2 : (2 : Int) ^ (k + 1 + 1) = 2 ^ (k + 1) * 2 := Int.pow_succ ..
    have e3 : (2 : Int) ^ (k + 1) = 2 ^ k * 2 := Int.pow_succ ..
    rw [e, e2, ← Int.mul_assoc]
    rw [e3, ← Int.mul_assoc] at h4 ⊢
    generalize M * 2 ^ k = z at *
    omega
/-- neighbouring coins are coins of a system -/
theorem gcd_dvd_fold (d : Nat) : ∀ (l : List Int) (g : Nat), (l.foldl (fun (g : Nat) x => Int.gcd (g : Int) x) g ∣ g) ∧ ∀ c ∈ l, (l.foldl (fun (g : Nat) x => Int.gcd (g : Int) x) g) ∣ c.natAbs
  | [], g => ⟨Nat.dvd_refl _, fun _ h => nomatch h⟩
  | c :: l, g => by
    obtain ⟨h1, h2⟩ := gcd_dvd_fold d l (Int.gcd (g : Int) c)
    have e : Int.gcd (g : Int) c = Nat.gcd g c.natAbs := rfl
    refine ⟨Nat.dvd_trans h1 (by rw [e]; exact Nat.gcd_dvd_left _ _), fun x hx => ?_⟩
    rcases List.mem_cons.mp hx with rfl | hx
    · exact Nat.dvd_trans h1 (by rw [e]; exact Nat.gcd_dvd_right _ _)
    · exact h2 x hx
theorem okC_range {f : Int} {n : Nat} (h1 : 1 ≤ f) (h2 : f ≤ 2000) (h3 : 2 ≤ n ∨ f = 1) (h4 : n ≤ 700) (h5 : 1 ≤ n) : okC (rangeI f n) = true := by
  unfold okC
  simp only [Bool.and_eq_true, decide_eq_true_eq, List.all_eq_true, rangeI_len]
  refine ⟨⟨⟨⟨⟨h5, h4⟩, fun c hc => ?_⟩, rangeI_nodup⟩, ?_⟩, ?_⟩
  · have := rangeI_mem.mp hc
    omega
  · have hne : rangeI f n ≠ [] := fun e => by have := rangeI_len (lo := f) (n := n); rw [e] at this; simp at this; omega
    have := (minI_spec _ hne).2 f (rangeI_mem.mpr ⟨Int.le_refl _, by omega⟩)
    omega
  · obtain ⟨_, d⟩ := gcd_dvd_fold 0 (rangeI f n) 0
    have d1 := d f (rangeI_mem.mpr ⟨Int.le_refl _, by omega⟩)
    generalize (rangeI f n).foldl (fun (g : Nat) x => Int.gcd (g : Int) x) 0 = g at d d1
    have : g ∣ 1 := by
      rcases h3 with h3 | rfl
      · have d2 := d (f + 1) (rangeI_mem.mpr ⟨by omega, by omega⟩)
        have e : (f + 1).natAbs = f.natAbs + 1 := by omega
        rw [e] at d2
        exact (Nat.dvd_add_right d1).mp d2
      · exact d1
    exact Nat.dvd_one.mp this
end KK
end

section
set_option Elab.async false
set_option linter.all false
set_option maxRecDepth 100000
set_option maxHeartbeats 1000000
namespace KK
open PySem PySem.Spec PyProof.Rows L2 VL
/-! ### systems as sets of sums -/
theorem pays_lt {cs : List Int} (hc : ∀ c ∈ cs, 1 ≤ c) {b n : Int} (p : Pays cs n) : n < b → Pays (cs.filter fun x => decide (x < b)) n := by
  induction p with
  | zero => intro _; exact .zero
  | @add m c h p ih =>
    intro hb
    have h0 := p.nonneg fun c hc' => by have := hc c hc'; omega
    have := hc c h
    exact .add (List.mem_filter.mpr ⟨h, decide_eq_true (by omega)⟩) (ih (by omega))
/-- the needed coins are the sums that are no two sums -/
theorem nd_irr {cs : List Int} (h : okC cs = true) {c : Int} : c ∈ nd cs ↔ 1 ≤ c ∧ Pays cs c ∧ ∀ a b, 1 ≤ a → 1 ≤ b → a + b = c → Pays cs a → ¬ Pays cs b := by
  obtain ⟨m, S⟩ := sys_ok h
  have hc : ∀ c ∈ cs, 1 ≤ c := fun c hc => (coin_pos h c hc).1
  rw [S.ned c]
  constructor
  · rintro ⟨h1, h2⟩
    refine ⟨hc c h1, .one h1, fun a b ha hb e pa pb => h2 ?_⟩
    have := (pays_lt hc pa (b := c) (by omega)).plus (pays_lt hc pb (b := c) (by omega))
    rwa [e] at this
  · rintro ⟨h1, h2, h3⟩
    obtain ⟨d, hd, hle, p⟩ := (pays_step hc h1).mp h2
    have e : d = c := by
      refine Classical.byContradiction fun ne => h3 d (c - d) (hc d hd) (by omega) (by omega) (.one hd) p
    subst e
    refine ⟨hd, fun p => ?_⟩
    obtain ⟨e, he, hle, q⟩ := (pays_step (fun c' h' => hc c' (List.mem_filter.mp h').1) h1).mp p
    obtain ⟨he1, he2⟩ := List.mem_filter.mp he
    have he2 := of_decide_eq_true he2
    exact h3 e (d - e) (hc e he1) (by omega) (by omega) (.one he1) (q.mono fun c' h' => (List.mem_filter.mp h').1)
theorem nd_eq_iff {cs ds : List Int} (h1 : okC cs = true) (h2 : okC ds = true) : nd cs = nd ds ↔ ∀ n, 0 ≤ n → (Pays cs n ↔ Pays ds n) := by
  obtain ⟨m, S⟩ := sys_ok h1
  obtain ⟨m', S'⟩ := sys_ok h2
  constructor
  · intro e n _
    rw [← S.pays n, ← S'.pays n, e]
  · intro hp
    refine lt_uniq S.srt S'.srt fun c => ?_
    rw [nd_irr h1, nd_irr h2]
    refine and_congr_right fun hc => ?_
    rw [hp c (by omega)]
    refine and_congr_right fun _ => ?_
    constructor
    · intro h a b ha hb e pa pb
      exact h a b ha hb e ((hp a (by omega)).mpr pa) ((hp b (by omega)).mpr pb)
    · intro h a b ha hb e pa pb
      exact h a b ha hb e ((hp a (by omega)).mp pa) ((hp b (by omega)).mp pb)
/-! ### the least coins of a row -/
noncomputable def leastL : List Int → List Int → List Int
  | acc, [] => acc
  | acc, c :: l => leastL (if payB acc c then acc else acc ++ [c]) l
theorem leastL_pre : ∀ (l acc : List Int), ∃ t, leastL acc l = acc ++ t
  | [], acc => ⟨[], (List.append_nil _).symm⟩
  | c :: l, acc => by
    unfold leastL
    obtain ⟨t, e⟩ := leastL_pre l (if payB acc c then acc else acc ++ [c])
    rw [e]
    split
    · exact ⟨t, rfl⟩
    · exact ⟨c :: t, by rw [List.append_assoc]; rfl⟩
theorem leastL_sub : ∀ (l acc : List Int), (leastL acc l).Sublist (acc ++ l)
  | [], acc => by unfold leastL; rw [List.append_nil]; exact List.Sublist.refl _
  | c :: l, acc => by
    unfold leastL
    split
    · exact (leastL_sub l acc).trans (List.Sublist.append_left (List.sublist_cons_self c l) acc)
    · have := leastL_sub l (acc ++ [c])
      rwa [List.append_assoc] at this
theorem leastL_pays : ∀ (l acc : List Int) (n : Int), Pays (leastL acc l) n ↔ Pays (acc ++ l) n
  | [], acc, n => by unfold leastL; rw [List.append_nil]
  | c :: l, acc, n => by
    unfold leastL
    rw [leastL_pays l _ n]
    cases hb : payB acc c with
    | false => rw [if_neg (by decide), List.append_assoc]; rfl
    | true =>
      rw [if_pos rfl]
      have hb := payB_iff.mp hb
      refine ⟨fun p => p.mono fun x hx => ?_, fun p => p.trans fun x hx => ?_⟩
      · rcases List.mem_append.mp hx with hx | hx
        · exact List.mem_append_left _ hx
        · exact List.mem_append_right _ (List.mem_cons_of_mem _ hx)
      · rcases List.mem_append.mp hx with hx | hx
        · exact .one (List.mem_append_left _ hx)
        · rcases List.mem_cons.mp hx with rfl | hx
          · exact hb.mono fun y hy => List.mem_append_left _ hy
          · exact .one (List.mem_append_right _ hx)
def Fresh (l : List Int) : Prop := ∀ i x, l[i]? = some x → ¬ Pays (l.take i) x
theorem leastL_fresh : ∀ (l acc : List Int), Fresh acc → Fresh (leastL acc l)
  | [], acc, h => h
  | c :: l, acc, h => by
    unfold leastL
    refine leastL_fresh l _ ?_
    cases hb : payB acc c with
    | true => rw [if_pos rfl]; exact h
    | false =>
      rw [if_neg (by decide)]
      intro i x hx
      by_cases hi : i < acc.length
      · rw [List.getElem?_append_left hi] at hx
        rw [List.take_append_of_le_length (by omega)]
        exact h i x hx
      · have hlt := (List.getElem?_eq_some_iff.mp hx).1
        rw [List.length_append, List.length_singleton] at hlt
        have e : i = acc.length := by omega
        subst e
        rw [List.getElem?_append_right (Nat.le_refl _), Nat.sub_self] at hx
        cases hx
        rw [List.take_left']
        · exact payB_f.mp hb
        · rfl
theorem fresh_len {l : List Int} (hf : Fresh l) (hs : l.Pairwise (· < ·)) {f : Nat} (h0 : l[0]? = some (f : Int)) (f1 : 1 ≤ f) : l.length ≤ f := by
  have hlt : ∀ i j : Nat, i < j → ∀ x y, l[i]? = some x → l[j]? = some y → x < y := fun i j hij x y hx hy => by
    obtain ⟨hi, rfl⟩ := List.getElem?_eq_some_iff.mp hx
    obtain ⟨hj, rfl⟩ := List.getElem?_eq_some_iff.mp hy
    exact List.pairwise_iff_getElem.mp hs i j hi hj hij
  have hge : ∀ x ∈ l, (f : Int) ≤ x := fun x hx => by
    obtain ⟨i, hi⟩ := List.getElem?_of_mem hx
    cases i with
    | zero => rw [h0] at hi; cases hi; omega
    | succ i => have := hlt 0 (i + 1) (by omega) _ _ h0 hi; omega
  have key : (l.map fun c => (c % (f : Int)).toNat).Nodup := by
    refine List.pairwise_map.mpr (List.pairwise_iff_getElem.mpr fun i j hi hj hij he => ?_)
    have hi' : l[i]? = some l[i] := List.getElem?_eq_getElem hi
    have hj' : l[j]? = some l[j] := List.getElem?_eq_getElem hj
    have hl := hlt i j hij _ _ hi' hj'
    have hx := hge _ (List.getElem_mem hi)
    generalize l[i] = x at *
    generalize l[j] = y at *
    refine hf j y hj' ?_
    have e : x % (f : Int) = y % (f : Int) := by
      have a := Int.emod_nonneg x (show (f : Int) ≠ 0 by omega)
      have b := Int.emod_nonneg y (show (f : Int) ≠ 0 by omega)
      omega
    have e2 : y = x + ((y / (f : Int) - x / (f : Int))) * (f : Int) := by
      have a := Int.mul_ediv_add_emod x (f : Int)
      have b := Int.mul_ediv_add_emod y (f : Int)
      rw [Int.sub_mul, Int.mul_comm (y / (f : Int)), Int.mul_comm (x / (f : Int))]
      omega
    have q0 : 0 ≤ y / (f : Int) - x / (f : Int) := by
      have := Int.ediv_le_ediv (show (0 : Int) < f by omega) (show x ≤ y by omega)
      omega
    obtain ⟨k, hk⟩ := nat_of q0
    rw [hk] at e2
    have m0 : (f : Int) ∈ l.take j := List.mem_of_getElem? (i := 0) (by rw [List.getElem?_take, if_pos (by omega)]; exact h0)
    have m1 : x ∈ l.take j := List.mem_of_getElem? (i := i) (by rw [List.getElem?_take, if_pos hij]; exact hi')
    rw [e2]
    exact (Pays.one m1).plus ((Pays.one m0).times k)
  have sub : (l.map fun c => (c % (f : Int)).toNat) ⊆ List.range f := fun z hz => by
    obtain ⟨c, _, rfl⟩ := List.mem_map.mp hz
    have a := Int.emod_nonneg c (show (f : Int) ≠ 0 by omega)
    have b := Int.emod_lt_of_pos c (show (0 : Int) < f by omega)
    exact List.mem_range.mpr (by omega)
  have := List.Nodup.length_le_of_subset key sub
  rwa [List.length_map, List.length_range] at this
/-! ### sums told by a flag -/
structure Sg (P : Int → Bool) (m : Nat) : Prop where
  zero : P 0 = true
  add : ∀ a b, 0 ≤ a → 0 ≤ b → P a = true → P b = true → P (a + b) = true
  top : ∀ n : Int, (m : Int) ≤ n → P n = true
  m1 : 1 ≤ m
def pkL (P : Int → Bool) (m : Nat) : List Int := (rangeI 1 m).filter P
def gnL (P : Int → Bool) (m : Nat) : List Int := (rangeI 1 m).filter fun n => !P n
def laI (P : Int → Bool) (m : Nat) : Int := (gnL P m).getLastD 0
def smL (P : Int → Bool) (m : Nat) : List Int := (pkL P m).filter fun n => decide (n ≤ laI P m)
def fiI (P : Int → Bool) (m : Nat) : Int := (smL P m).headD (laI P m + 1)
def coL (P : Int → Bool) (m : Nat) : List Int := smL P m ++ rangeI (laI P m + 1) (fiI P m).toNat
noncomputable def sgC (P : Int → Bool) (m : Nat) : List Int := leastL [] (coL P m)
theorem srt_last {l : List Int} (hs : l.Pairwise (· < ·)) {x : Int} (hx : x ∈ l) : x ≤ l.getLastD 0 ∧ l.getLastD 0 ∈ l := by
  have hne : l ≠ [] := fun e => by rw [e] at hx; cases hx
  rw [List.getLastD_eq_getLast?, List.getLast?_eq_some_getLast hne, Option.getD_some]
  refine ⟨?_, List.getLast_mem hne⟩
  obtain ⟨i, hi, rfl⟩ := List.getElem_of_mem hx
  rw [List.getLast_eq_getElem]
  by_cases e : i = l.length - 1
  · subst e; exact Int.le_refl _
  · have := List.pairwise_iff_getElem.mp hs i (l.length - 1) hi (by omega) (by omega)
    omega
section
variable {P : Int → Bool} {m : Nat}
theorem la_ok (S : Sg P m) : 0 ≤ laI P m ∧ laI P m + 1 ≤ (m : Int) ∧ ∀ n, laI P m < n → P n = true := by
  have hs : (gnL P m).Pairwise (· < ·) := rangeI_lt.filter _
  have m1 := S.m1
  have mem : ∀ n, n ∈ gnL P m → 1 ≤ n ∧ n + 1 ≤ (m : Int) ∧ P n = false := fun n hn => by
    obtain ⟨h1, h2⟩ := List.mem_filter.mp hn
    have h1 := rangeI_mem.mp h1
    rw [Bool.not_eq_true'] at h2
    refine ⟨h1.1, ?_, h2⟩
    refine Int.not_lt.mp fun z => ?_
    rw [S.top n (by omega)] at h2
    cases h2
  have top : ∀ n, laI P m < n → P n = true := fun n hn => by
    by_cases hm : (m : Int) ≤ n
    · exact S.top n hm
    by_cases h0 : 1 ≤ n
    · refine Classical.byContradiction fun ne => ?_
      have hg : n ∈ gnL P m := List.mem_filter.mpr ⟨rangeI_mem.mpr ⟨h0, by omega⟩, by rw [Bool.not_eq_true']; exact Bool.eq_false_iff.mpr ne⟩
      have := (srt_last hs hg).1
      unfold laI at hn
      omega
    · have h9 : 0 ≤ laI P m := by
        unfold laI
        cases e : gnL P m with
        | nil => exact Int.le_refl _
        | cons x l =>
          have h := (srt_last hs (x := x) (by rw [e]; exact List.mem_cons_self)).2
          rw [e] at h
          have := mem _ (by rw [e]; exact h)
          omega
      omega
  by_cases e : gnL P m = []
  · have : laI P m = 0 := by unfold laI; rw [e]; rfl
    exact ⟨by omega, by omega, top⟩
  · obtain ⟨x, hx⟩ := List.exists_mem_of_ne_nil _ e
    have h := mem _ (srt_last hs hx).2
    unfold laI at top ⊢
    exact ⟨by omega, by omega, top⟩
theorem sm_mem (S : Sg P m) {n : Int} : n ∈ smL P m ↔ (1 ≤ n ∧ n ≤ laI P m) ∧ P n = true := by
  obtain ⟨l0, l1, _⟩ := la_ok S
  unfold smL pkL
  rw [List.mem_filter, List.mem_filter, rangeI_mem, decide_eq_true_eq]
  constructor
  · rintro ⟨⟨h1, h2⟩, h3⟩; exact ⟨⟨h1.1, h3⟩, h2⟩
  · rintro ⟨⟨h1, h2⟩, h3⟩; exact ⟨⟨⟨h1, by omega⟩, h3⟩, h2⟩
theorem sm_srt : (smL P m).Pairwise (· < ·) := (rangeI_lt.filter _).filter _
theorem fi_ok (S : Sg P m) : 1 ≤ fiI P m ∧ fiI P m ≤ laI P m + 1 ∧ P (fiI P m) = true ∧ (coL P m)[0]? = some (fiI P m) ∧ fiI P m ∈ coL P m := by
  obtain ⟨l0, l1, l2⟩ := la_ok S
  have h0 : ∃ f, fiI P m = f ∧ 1 ≤ f ∧ f ≤ laI P m + 1 ∧ P f = true ∧ (smL P m ++ rangeI (laI P m + 1) f.toNat)[0]? = some f := by
    unfold fiI
    cases e : smL P m with
    | nil =>
      refine ⟨_, rfl, by show 1 ≤ laI P m + 1; omega, Int.le_refl _, l2 _ (by show laI P m < laI P m + 1; omega), ?_⟩
      show (rangeI (laI P m + 1) (laI P m + 1).toNat)[0]? = some (laI P m + 1)
      obtain ⟨k, hk⟩ : ∃ k, (laI P m + 1).toNat = k + 1 := ⟨(laI P m).toNat, by omega⟩
      rw [hk]
      unfold rangeI
      rw [List.getElem?_map, List.getElem?_range (by omega)]
      simp
    | cons x l =>
      have hx := (sm_mem S (n := x)).mp (by rw [e]; exact List.mem_cons_self)
      exact ⟨x, rfl, hx.1.1, by omega, hx.2, rfl⟩
  obtain ⟨f, e, h1, h2, h3, h4⟩ := h0
  have h5 : (coL P m)[0]? = some f := by unfold coL; rw [e]; exact h4
  rw [e]
  exact ⟨h1, h2, h3, h5, List.mem_of_getElem? h5⟩
theorem co_mem (S : Sg P m) {n : Int} (hn : n ∈ coL P m) : 1 ≤ n ∧ n ≤ laI P m + fiI P m ∧ P n = true := by
  obtain ⟨l0, l1, l2⟩ := la_ok S
  obtain ⟨f1, f2, f3, _, _⟩ := fi_ok S
  unfold coL at hn
  rcases List.mem_append.mp hn with hn | hn
  · have := (sm_mem S).mp hn
    exact ⟨this.1.1, by omega, this.2⟩
  · have := rangeI_mem.mp hn
    exact ⟨by omega, by omega, l2 _ (by omega)⟩
theorem co_srt (S : Sg P m) : (coL P m).Pairwise (· < ·) := by
  unfold coL
  refine List.pairwise_append.mpr ⟨sm_srt, rangeI_lt, fun x hx y hy => ?_⟩
  have := (sm_mem S).mp hx
  have := rangeI_mem.mp hy
  omega
theorem co_pays (S : Sg P m) {n : Int} (hn : 0 ≤ n) : Pays (coL P m) n ↔ P n = true := by
  obtain ⟨l0, l1, l2⟩ := la_ok S
  obtain ⟨f1, f2, f3, _, f5⟩ := fi_ok S
  constructor
  · intro p
    clear hn
    have : 0 ≤ n ∧ P n = true := by
      induction p with
      | zero => exact ⟨Int.le_refl _, S.zero⟩
      | add hc _ ih =>
        obtain ⟨c1, _, c3⟩ := co_mem S hc
        exact ⟨by omega, S.add _ _ ih.1 (by omega) ih.2 c3⟩
    exact this.2
  · intro hp
    by_cases h0 : n = 0
    · rw [h0]; exact .zero
    by_cases h1 : n ≤ laI P m
    · exact .one (by unfold coL; exact List.mem_append_left _ ((sm_mem S).mpr ⟨⟨by omega, h1⟩, hp⟩))
    · have e := Int.mul_ediv_add_emod (n - (laI P m + 1)) (fiI P m)
      have r0 := Int.emod_nonneg (n - (laI P m + 1)) (show fiI P m ≠ 0 by omega)
      have r1 := Int.emod_lt_of_pos (n - (laI P m + 1)) (show 0 < fiI P m by omega)
      have q0 := Int.ediv_nonneg (show 0 ≤ n - (laI P m + 1) by omega) (show 0 ≤ fiI P m by omega)
      generalize (n - (laI P m + 1)) / fiI P m = q at *
      generalize (n - (laI P m + 1)) % fiI P m = r at *
      obtain ⟨k, rfl⟩ := nat_of q0
      have e2 : n = (laI P m + 1 + r) + (k : Int) * fiI P m := by rw [Int.mul_comm (k : Int)]; omega
      rw [e2]
      refine (Pays.one (show laI P m + 1 + r ∈ coL P m from ?_)).plus ((Pays.one f5).times k)
      unfold coL
      exact List.mem_append_right _ (rangeI_mem.mpr ⟨by omega, by omega⟩)
theorem sg_pays (S : Sg P m) {n : Int} (hn : 0 ≤ n) : Pays (sgC P m) n ↔ P n = true := by
  unfold sgC
  rw [leastL_pays, List.nil_append, co_pays S hn]
theorem sg_head (S : Sg P m) : (sgC P m)[0]? = some (fiI P m) := by
  obtain ⟨f1, _, _, f4, _⟩ := fi_ok S
  unfold sgC
  cases e : coL P m with
  | nil => rw [e] at f4; cases f4
  | cons x l =>
    rw [e] at f4
    cases f4
    unfold leastL
    have : payB [] (fiI P m) = false := payB_f.mpr fun p => by
      have key : ∀ n, Pays [] n → n = 0 := fun n p => by
        induction p with
        | zero => rfl
        | add h _ => cases h
      have := key _ p
      omega
    rw [this, if_neg (by decide)]
    obtain ⟨t, et⟩ := leastL_pre l ([] ++ [fiI P m])
    rw [et]
    rfl
theorem sg_ok (S : Sg P m) (hm : m ≤ 700) : okC (sgC P m) = true := by
  obtain ⟨l0, l1, l2⟩ := la_ok S
  obtain ⟨f1, f2, f3, f4, f5⟩ := fi_ok S
  have sub : (sgC P m).Sublist (coL P m) := by have := leastL_sub (coL P m) []; rwa [List.nil_append] at this
  have hh := sg_head S
  have hs : (sgC P m).Pairwise (· < ·) := (co_srt S).sublist sub
  have hlen : (sgC P m).length ≤ (fiI P m).toNat := fresh_len (leastL_fresh _ [] fun i x h => by cases h) hs (by rw [Int.toNat_of_nonneg (by omega)]; exact hh) (by omega)
  have hmem := List.mem_of_getElem? hh
  unfold okC
  simp only [Bool.and_eq_true, decide_eq_true_eq, List.all_eq_true]
  refine ⟨⟨⟨⟨⟨List.length_pos_iff.mpr (fun e => by rw [e] at hmem; cases hmem), by omega⟩, fun c hc => ?_⟩, hs.imp fun h => by omega⟩, ?_⟩, ?_⟩
  · have := co_mem S (sub.subset hc)
    omega
  · have := (minI_spec (sgC P m) (fun e => by rw [e] at hmem; cases hmem)).2 _ hmem
    omega
  · obtain ⟨_, d⟩ := gcd_dvd_fold 0 (sgC P m) 0
    generalize (sgC P m).foldl (fun (g : Nat) x => Int.gcd (g : Int) x) 0 = g at d
    have key : ∀ n, Pays (sgC P m) n → (g : Int) ∣ n := fun n p => by
      induction p with
      | zero => exact Int.dvd_zero _
      | add hc _ ih => exact Int.dvd_add ih (Int.ofNat_dvd_left.mpr (d _ hc))
    have a := key _ ((sg_pays S (n := laI P m + 1) (by omega)).mpr (l2 _ (by omega)))
    have b := key _ ((sg_pays S (n := laI P m + 2) (by omega)).mpr (l2 _ (by omega)))
    have c := Int.dvd_sub b a
    rw [show laI P m + 2 - (laI P m + 1) = 1 by omega] at c
    exact Nat.dvd_one.mp (Int.natCast_dvd_natCast.mp c)
end
end KK
end

section
set_option Elab.async false
set_option linter.all false
set_option maxRecDepth 100000
set_option maxHeartbeats 4000000
namespace KK
open PySem PySem.Spec PyProof.Rows L2 VL
abbrev s_least_coins : Stmt := topS 28
abbrev N_least_coins : List Str := ["coins", "paid", "found", "coin", "number"]
theorem sc_least_coins : FnScope N_least_coins ["coins"] (defScope s_least_coins) := ⟨rfl, rfl, rfl, by decide +kernel, rfl, by decide +kernel, by decide +kernel⟩
variable {P : Program} {w : World} {K : PySem.W.Frag} {mg : Str → Option Value} {base : Heap} {f aCoinError aBadNumber aNoSystem aBadCoins aTooMany aSystem : Addr} {fd : FuncData}
def A_least_coins (ds : List D) (r : Res) : Prop := ∃ l : List Int, ds = [.lst (l.map D.int)] ∧ l ≠ [] ∧ l.Pairwise (· < ·) ∧ (∀ c ∈ l, 1 ≤ c ∧ c ≤ 10000) ∧ l.length ≤ 10000 ∧ r = .ok (.lst ((leastL [] l).map D.int))
theorem leastL_snoc : ∀ (l acc : List Int) (c : Int), leastL acc (l ++ [c]) = if payB (leastL acc l) c then leastL acc l else leastL acc l ++ [c]
  | [], acc, c => rfl
  | x :: l, acc, c => by
    rw [List.cons_append]
    unfold leastL
    exact leastL_snoc l _ c
theorem pays_snoc {f : List Int} {c n : Int} : Pays (f ++ [c]) n ↔ Pays f n ∨ Pays (f ++ [c]) (n - c) := by
  constructor
  · intro p
    induction p with
    | zero => exact .inl .zero
    | @add n d hd p ih =>
      rcases List.mem_append.mp hd with hd | hd
      · rcases ih with ih | ih
        · exact .inl (.add hd ih)
        · right
          have := ih.add (List.mem_append_left [c] hd)
          rwa [show n - c + d = n + d - c by omega] at this
      · rw [List.mem_singleton.mp hd, Int.add_sub_cancel]
        exact .inr p
  · rintro (p | p)
    · exact p.mono fun x hx => List.mem_append_left _ hx
    · have := p.add (List.mem_append_right f List.mem_cons_self)
      rwa [Int.sub_add_cancel] at this
theorem payB_snoc {f : List Int} {c n : Int} : payB (f ++ [c]) n = (payB f n || payB (f ++ [c]) (n - c)) := by
  cases h : payB (f ++ [c]) n with
  | true =>
    rcases pays_snoc.mp (payB_iff.mp h) with z | z
    · rw [payB_iff.mpr z]; rfl
    · rw [payB_iff.mpr z, Bool.or_true]
  | false =>
    have := payB_f.mp h
    rw [payB_f.mpr fun z => this (pays_snoc.mpr (.inl z)), payB_f.mpr fun z => this (pays_snoc.mpr (.inr z))]; rfl
theorem payB_small {f : List Int} (hf : ∀ x ∈ f, 1 ≤ x) {c n : Int} (hc : 1 ≤ c) (h : n < c) : payB (f ++ [c]) n = payB f n := by
  rw [payB_snoc]
  have : payB (f ++ [c]) (n - c) = false := payB_f.mpr fun p => by
    have := p.nonneg fun x hx => by
      rcases List.mem_append.mp hx with hx | hx
      · have := hf x hx; omega
      · rw [List.mem_singleton.mp hx]; omega
    omega
  rw [this, Bool.or_false]
/-- the flags, as far as a coin has come -/
noncomputable def flL (f : List Int) (c : Nat) (b j : Nat) : List Bool := (List.range (b + 1)).map fun k => if k < c + j then payB (f ++ [(c : Int)]) (k : Nat) else payB f (k : Nat)
noncomputable def fl0 (f : List Int) (b : Nat) : List Bool := (List.range (b + 1)).map fun k => payB f (k : Nat)
theorem fl_len {f : List Int} {c b j : Nat} : (flL f c b j).length = b + 1 := by unfold flL; rw [List.length_map, List.length_range]
theorem fl_at {f : List Int} {c b j k : Nat} (h : k < b + 1) : (flL f c b j)[k]? = some (if k < c + j then payB (f ++ [(c : Int)]) (k : Nat) else payB f (k : Nat)) := by
  unfold flL; rw [List.getElem?_map, List.getElem?_range h]; rfl
theorem fl0_at {f : List Int} {b k : Nat} (h : k < b + 1) : (fl0 f b)[k]? = some (payB f (k : Nat)) := by
  unfold fl0; rw [List.getElem?_map, List.getElem?_range h]; rfl
theorem fl_start {f : List Int} (hf : ∀ x ∈ f, 1 ≤ x) {c b : Nat} (hc : 1 ≤ c) : fl0 f b = flL f c b 0 := by
  unfold fl0 flL
  refine List.map_congr_left fun k _ => ?_
  split
  · rw [payB_small hf (by omega) (by omega)]
  · rfl
theorem fl_end {f : List Int} {c b j : Nat} (h : b < c + j) : flL f c b j = fl0 (f ++ [(c : Int)]) b := by
  unfold fl0 flL
  refine List.map_congr_left fun k hk => ?_
  rw [if_pos (by have := List.mem_range.mp hk; omega)]
theorem fl_step {f : List Int} {c b j : Nat} (hc : 1 ≤ c) (h : c + j < b + 1) : flL f c b (j + 1) = if payB (f ++ [(c : Int)]) (j : Nat) then (flL f c b j).set (c + j) true else flL f c b j := by
  refine List.ext_getElem? fun k => ?_
  by_cases hk : k < b + 1
  · rw [fl_at hk]
    have e1 : payB (f ++ [(c : Int)]) ((c + j : Nat) : Int) = (payB f ((c + j : Nat) : Int) || payB (f ++ [(c : Int)]) (j : Nat)) := by
      rw [payB_snoc, show (((c + j : Nat) : Int) - (c : Int)) = (j : Nat) by omega]
    by_cases e : k = c + j
    · subst e
      rw [if_pos (by omega), e1]
      cases hp : payB (f ++ [(c : Int)]) (j : Nat) with
      | true => rw [if_pos rfl, List.getElem?_set_self (by rw [fl_len]; exact hk), Bool.or_true]
      | false => rw [if_neg (by decide), fl_at hk, if_neg (by omega), Bool.or_false]
    · have : (if payB (f ++ [(c : Int)]) (j : Nat) then (flL f c b j).set (c + j) true else flL f c b j)[k]? = (flL f c b j)[k]? := by
        split
        · exact List.getElem?_set_ne (show c + j ≠ k by omega)
        · rfl
      rw [this, fl_at hk]
      congr 1
      by_cases h1 : k < c + j
      · rw [if_pos h1, if_pos (by omega)]
      · rw [if_neg h1, if_neg (by omega)]
  · rw [List.getElem?_eq_none (by rw [fl_len]; omega)]
    split
    · exact (List.getElem?_eq_none (by rw [List.length_set, fl_len]; omega)).symm
    · exact (List.getElem?_eq_none (by rw [fl_len]; omega)).symm
theorem fl0_nil (b : Nat) : fl0 [] b = [true] ++ List.replicate b false := by
  have key : ∀ n, Pays [] n → n = 0 := fun n p => by
    induction p with
    | zero => rfl
    | add h _ => cases h
  unfold fl0
  rw [show b + 1 = 1 + b by omega, List.range_add, List.map_append]
  congr 1
  · show [payB [] 0] = [true]
    rw [payB_iff.mpr .zero]
  · rw [List.map_map]
    refine List.eq_replicate_iff.mpr ⟨by rw [List.length_map, List.length_range], fun x hx => ?_⟩
    obtain ⟨k, _, rfl⟩ := List.mem_map.mp hx
    exact payB_f.mpr fun p => by have := key ((1 + k : Nat) : Int) p; omega
theorem ok_least_coins (T : Blt mg) (Fu : Fun K "least_coins" "least_coins" s_least_coins f fd) (hb : Binds K fd ["coins"] []) (hm : mg "least_coins" = some (.ref f)) : FnV P w K mg base 1 "least_coins" (detS A_least_coins) := by
  refine fn_pure (k := 0) Fu sc_least_coins hb hm (fun ds r ⟨d, e, _⟩ => by subst e; rfl) fun cdv A' outer s H E hr B ds r ⟨l, e, hne, hs, hc, hll, er⟩ => ?_
  subst e er
  have hpos := List.length_pos_iff.mpr hne
  have hlast : l[l.length - 1]? = some (l.getD (l.length - 1) 0) := at_getD (by omega)
  have hlm := hc _ (List.mem_of_getElem? hlast)
  obtain ⟨b, hb'⟩ := nat_of (show 0 ≤ l.getD (l.length - 1) 0 by omega)
  have hle : ∀ c ∈ l, c ≤ (b : Int) := fun c hcm => by
    obtain ⟨i, hi, rfl⟩ := List.getElem_of_mem hcm
    rw [← hb']
    have : l.getD (l.length - 1) 0 = l[l.length - 1] := by rw [List.getD_eq_getElem?_getD, List.getElem?_eq_getElem (by omega)]; rfl
    rw [this]
    by_cases e : i = l.length - 1
    · subst e; exact Int.le_refl _
    · have := List.pairwise_iff_getElem.mp hs i (l.length - 1) hi (by omega) (by omega)
      omega
  have hsub : ∀ i, ∀ x ∈ leastL [] (l.take i), 1 ≤ x := fun i x hx => by
    have := (leastL_sub (l.take i) []).subset hx
    rw [List.nil_append] at this
    exact (hc x (List.mem_of_mem_take this)).1
  have hlen : ∀ i, (leastL [] (l.take i)).length ≤ 10000 := fun i => by
    have := (leastL_sub (l.take i) []).length_le
    rw [List.nil_append, List.length_take] at this
    omega
  refine css_asgN 1 B (CN.eq (ys := (fl0 [] b).map D.bl) (n_catL (CN.ce (n_lst (d_cons c_bl d_nil) (sz (by simp)))) (CN.ce (n_repL (CN.ce (n_lst (d_cons c_bl d_nil) (sz (by simp)))) (c_ixL (i := -1) (d := .int (b : Nat)) (c_var 0) (c_neg c_int) (at_last (by rw [List.length_map, ← hb']; exact at_ints hlast))) ⟨by omega, by omega⟩ (sz (by simp; omega)))) (sz ?_)) ?_) (fun q => ?_)
  · rw [Int.toNat_natCast, flat1, List.length_replicate, List.length_cons, List.length_nil]; omega
  · rw [Int.toNat_natCast, fl0_nil, List.map_append, List.map_replicate]
    rw [flat1]
    rfl
  refine css_asgN 2 B (n_lst d_nil (sz (by simp))) (fun p => ?_)
  show CSs _ [.dat (.lst (l.map D.int)), .mut q ((fl0 [] b).map D.bl), .mut p [], .un, .un] _ _
  refine css_for (T := .nm 3) B (ci_list (c_var 0)) (tg_nm 3 B.nd) (fun i ρ => ∃ x y : Sl, ρ = [.dat (.lst (l.map D.int)), .mut q ((fl0 (leastL [] (l.take i)) b).map D.bl), .mut p ((leastL [] (l.take i)).map D.int), x, y]) ⟨_, _, rfl⟩ (fun i d ρ hd hJ => ?_) (fun ρ hJ => ?_)
  · obtain ⟨x, y, rfl⟩ := hJ
    rw [List.getElem?_map] at hd
    cases hx : l[i]? with
    | none => rw [hx] at hd; cases hd
    | some c0 =>
      rw [hx] at hd
      cases hd
      have hcm := List.mem_of_getElem? hx
      have hc1 := hc c0 hcm
      have hcb := hle c0 hcm
      obtain ⟨c, rfl⟩ := nat_of (show 0 ≤ c0 by omega)
      have hstep : leastL [] (l.take (i + 1)) = if payB (leastL [] (l.take i)) (c : Int) then leastL [] (l.take i) else leastL [] (l.take i) ++ [(c : Int)] := by
        rw [List.take_succ, hx, Option.toList_some, leastL_snoc]
      have hfl := hsub i
      have hfn := hlen i
      generalize leastL [] (l.take i) = fo at *
      refine ⟨_, .nm, ?_⟩
      show CSs _ [.dat (.lst (l.map D.int)), .mut q ((fl0 fo b).map D.bl), .mut p (fo.map D.int), .dat (.int (c : Nat)), y] _ _
      have f0 : (fl0 fo b)[c]? = some (payB fo (c : Nat)) := fl0_at (by omega)
      refine css_if (k := !payB fo (c : Nat)) (t_bor (t_not (t_val (c_ixL (c_var 1) (c_var 3) (atI_i rfl (by rw [List.getElem?_map, f0]; rfl)))))) (fun h => ?_) (fun h => css_nil (css_nil ⟨.dat (.int (c : Nat)), y, ?_⟩))
      · rw [Bool.not_eq_true'] at h
        rw [h, if_neg (by decide)] at hstep
        refine css_append 2 (c_var 3) rfl rfl (szl (by rw [List.length_map]; omega)) ?_
        rw [fl_start (c := c) hfl (by omega)]
        show CSs _ [.dat (.lst (l.map D.int)), .mut q ((flL fo c b 0).map D.bl), .mut p (fo.map D.int ++ [.int (c : Nat)]), .dat (.int (c : Nat)), y] _ _
        refine css_for (T := .nm 4) B (ci_range2 T.range (c_var 3) (c_bor rfl (CE.eq (y := .int ((b + 1 : Nat) : Int)) (c_lenL T.len (c_var 1)) (by rw [List.length_map, fl_len]))) ⟨by omega, by omega, by omega, by omega⟩) (tg_nm 4 B.nd) (fun j ρ => ∃ y : Sl, ρ = [.dat (.lst (l.map D.int)), .mut q ((flL fo c b j).map D.bl), .mut p (fo.map D.int ++ [.int (c : Nat)]), .dat (.int (c : Nat)), y]) ⟨_, rfl⟩ (fun j d ρ hd hJ => ?_) (fun ρ hJ => ?_)
        · obtain ⟨hj, rfl⟩ := rangeD_inv hd
          obtain ⟨y, rfl⟩ := hJ
          have hj : c + j < b + 1 := by omega
          refine ⟨_, .nm, ?_⟩
          have ej : ((c : Nat) : Int) + ((j : Nat) : Int) = ((c + j : Nat) : Int) := by omega
          rw [ej]
          show CSs _ [.dat (.lst (l.map D.int)), .mut q ((flL fo c b j).map D.bl), .mut p (fo.map D.int ++ [.int (c : Nat)]), .dat (.int (c : Nat)), .dat (.int ((c + j : Nat) : Int))] _ _
          have fj : (flL fo c b j)[j]? = some (payB (fo ++ [(c : Int)]) (j : Nat)) := by rw [fl_at (by omega), if_pos (by omega)]
          have st := fl_step (f := fo) (c := c) (b := b) (j := j) (by omega) hj
          refine css_if (k := payB (fo ++ [(c : Int)]) (j : Nat)) (t_bor (t_val (c_ixL (i := ((j : Nat) : Int)) (c_var 1) (CE.eq (c_sub (c_var 4) (c_var 3)) (congrArg D.int (by omega))) (atI_i rfl (by rw [List.getElem?_map, fj]; rfl))))) (fun h => ?_) (fun h => css_nil (css_nil ⟨.dat (.int ((c + j : Nat) : Int)), by rw [st, h]; rfl⟩))
          refine css_setIx (j := c + j) 1 B c_bl (c_var 4) rfl (ixN_nat rfl (by rw [List.length_map, fl_len]; exact hj)) (css_nil (css_nil ⟨.dat (.int ((c + j : Nat) : Int)), ?_⟩))
          rw [st, h, if_pos rfl, List.map_set]
          rfl
        · obtain ⟨y, rfl⟩ := hJ
          rw [rangeD_len, fl_end (by omega)]
          refine css_nil (css_nil ⟨.dat (.int (c : Nat)), y, ?_⟩)
          rw [hstep, List.map_append]
          rfl
      · rw [Bool.not_eq_false'] at h
        rw [hstep, h, if_pos rfl]
  · obtain ⟨x, y, rfl⟩ := hJ
    rw [List.length_map, List.take_length]
    exact css_freeze (i := 2) rfl (css_ret (c_var 2) rfl)
end KK
end

section
set_option Elab.async false
set_option linter.all false
set_option maxRecDepth 100000
set_option maxHeartbeats 1000000
namespace KK
open PySem PySem.Spec PyProof.Rows L2 VL
/-! ### rules by one rest -/
def ruleB (f m s n : Int) : Bool := decide (f * n % m ≤ s * n)
theorem emod_le_self' {x m : Int} (hx : 0 ≤ x) (hm : 0 < m) : x % m ≤ x := by
  have e := Int.mul_ediv_add_emod x m
  have q := Int.ediv_nonneg hx (show 0 ≤ m by omega)
  have := Int.mul_nonneg (show 0 ≤ m by omega) q
  omega
theorem rule_sg {f s : Int} {m : Nat} (hm : 1 ≤ m) (hs : 1 ≤ s) : Sg (ruleB f m s) m := by
  have m0 : (0 : Int) < m := by omega
  refine ⟨?_, fun a b ha hb pa pb => ?_, fun n hn => ?_, hm⟩
  · unfold ruleB
    rw [Int.mul_zero, Int.zero_emod, Int.mul_zero]
    rfl
  · unfold ruleB at *
    have pa := of_decide_eq_true pa
    have pb := of_decide_eq_true pb
    refine decide_eq_true ?_
    rw [Int.mul_add, Int.mul_add, Int.add_emod]
    have h1 := Int.emod_nonneg (f * a) (show (m : Int) ≠ 0 by omega)
    have h2 := Int.emod_nonneg (f * b) (show (m : Int) ≠ 0 by omega)
    have h3 := emod_le_self' (x := f * a % m + f * b % m) (m := m) (by omega) m0
    omega
  · unfold ruleB
    refine decide_eq_true ?_
    have h1 := Int.emod_lt_of_pos (f * n) m0
    have h2 := Int.mul_le_mul_of_nonneg_right hs (show 0 ≤ n by omega)
    omega
theorem rule_rest (f m s n : Int) : ruleB (f % m) m s n = ruleB f m s n := by
  unfold ruleB
  rw [Int.mul_emod (f % m), Int.emod_emod_of_dvd _ (Int.dvd_refl m), ← Int.mul_emod]
/-- of a number and what is behind it to the modulus one is kept -/
theorem rule_mirror1 {f m n : Int} (hm : 0 < m) (h0 : 0 ≤ n) (h1 : n ≤ m) : ruleB f m 1 n = true ∨ ruleB f m 1 (m - n) = true := by
  unfold ruleB
  rw [decide_eq_true_eq, decide_eq_true_eq, Int.one_mul, Int.one_mul]
  by_cases h : f * n % m ≤ n
  · exact .inl h
  · right
    have a0 := Int.emod_nonneg (f * n) (show m ≠ 0 by omega)
    have a1 := Int.emod_lt_of_pos (f * n) hm
    have e : f * (m - n) % m = m - f * n % m := by
      have e1 := Int.mul_ediv_add_emod (f * n) m
      have : f * (m - n) = (m - f * n % m) + m * (f - 1 - f * n / m) := by
        rw [Int.mul_sub, Int.mul_sub, Int.mul_sub, Int.mul_one, Int.mul_comm m f]; omega
      rw [this, Int.add_mul_emod_self_left, Int.emod_eq_of_lt (by omega) (by omega)]
    omega
def twinI (f m : Int) : Int := (m + 1 - f) % m
theorem twin_in {f m : Int} (hm : 0 < m) : 0 ≤ twinI f m ∧ twinI f m < m := ⟨Int.emod_nonneg _ (by omega), Int.emod_lt_of_pos _ hm⟩
theorem twin_keeps {f m n : Int} (hm : 0 < m) (h0 : 0 ≤ n) (h1 : n < m) : ruleB (twinI f m) m 1 n = ruleB f m 1 n := by
  unfold twinI
  rw [rule_rest]
  unfold ruleB
  rw [Int.one_mul]
  refine decide_eq_decide.mpr ?_
  have a0 := Int.emod_nonneg (f * n) (show m ≠ 0 by omega)
  have a1 := Int.emod_lt_of_pos (f * n) hm
  have e1 := Int.mul_ediv_add_emod (f * n) m
  have e : (m + 1 - f) * n = (n - f * n % m) + m * (n - f * n / m) := by
    rw [Int.sub_mul, Int.add_mul, Int.one_mul, Int.mul_sub]; omega
  rw [e, Int.add_mul_emod_self_left]
  generalize f * n % m = a at *
  by_cases h : a ≤ n
  · rw [Int.emod_eq_of_lt (by omega) (by omega)]; omega
  · have : (n - a) % m = n - a + m := by
      rw [← Int.add_emod_right, Int.emod_eq_of_lt (by omega) (by omega)]
    rw [this]; omega
theorem twin_back {f m : Int} (hm : 0 < m) : twinI (twinI f m) m = f % m := by
  unfold twinI
  have e1 := Int.mul_ediv_add_emod (m + 1 - f) m
  generalize (m + 1 - f) % m = r at *
  generalize (m + 1 - f) / m = q at *
  have : m + 1 - r = f + m * q := by omega
  rw [this, Int.add_mul_emod_self_left]
/-- the number of gaps -/
def gapF (f m : Int) : Int := if f % m = 0 then 0 else (m + 1 - (Int.gcd (f % m) m : Nat) - (Int.gcd (f % m - 1) m : Nat)) / 2
def gapF2 (f m : Int) : Int := (m + 1 - (Int.gcd m (f % m) : Nat) - (Int.gcd m ((f % m - 1) % m) : Nat)) / 2
theorem gcd_emod (a m : Int) : Int.gcd m (a % m) = Int.gcd a m := by
  rw [Int.gcd_comm]
  have e := Int.emod_add_mul_ediv a m
  have := Int.gcd_add_mul_left_left m (a % m) (a / m)
  rw [e] at this
  exact this.symm
theorem gapF_eq {f m : Int} (hm : 2 ≤ m) : gapF2 f m = gapF f m := by
  unfold gapF gapF2
  rw [gcd_emod (f % m - 1) m]
  by_cases h : f % m = 0
  · rw [h, if_pos rfl]
    have a : Int.gcd m 0 = m.natAbs := Int.gcd_zero_right m
    have b : Int.gcd (0 - 1) m = 1 := by
      rw [show (0 - 1 : Int) = -1 by omega, Int.neg_gcd, Int.one_gcd]
    rw [a, b]
    omega
  · rw [if_neg h, Int.gcd_comm m]
def kL (f m s : Int) (b : Nat) : List Bool := (List.range b).map fun k => ruleB f m s (k : Nat)
def cntF (l : List Bool) : Nat := l.count false
/-- the count for one rest -/
def gapOk (m r : Nat) : Bool := decide ((((List.range m).map fun n => decide ((r * n) % m ≤ n)).count false : Int) = (if r = 0 then 0 else ((m : Int) + 1 - (Nat.gcd r m : Nat) - (Nat.gcd (r - 1) m : Nat)) / 2))
theorem gap_all : (List.range 61).all (fun m => (List.range m).all fun r => decide (m < 2) || gapOk m r) = true := by decide +kernel
theorem gapF_small {f : Int} {m : Nat} (h2 : 2 ≤ m) (h60 : m ≤ 60) : ((kL f m 1 m).count false : Int) = gapF f m := by
  have r0 := Int.emod_nonneg f (show (m : Int) ≠ 0 by omega)
  have r1 := Int.emod_lt_of_pos f (show (0 : Int) < m by omega)
  obtain ⟨r, hr⟩ := nat_of r0
  have h1 := List.all_eq_true.mp gap_all m (List.mem_range.mpr (by omega))
  have h3 := List.all_eq_true.mp h1 r (List.mem_range.mpr (by omega))
  rw [decide_eq_false (by omega), Bool.false_or] at h3
  have h4 := of_decide_eq_true h3
  have e : kL f m 1 m = (List.range m).map fun n => decide ((r * n) % m ≤ n) := by
    unfold kL
    refine List.map_congr_left fun n _ => ?_
    rw [← rule_rest, hr]
    unfold ruleB
    refine decide_eq_decide.mpr ?_
    rw [Int.one_mul]
    have : ((r : Nat) : Int) * ((n : Nat) : Int) % ((m : Nat) : Int) = (((r * n) % m : Nat) : Int) := by push_cast; rfl
    rw [this]
    omega
  rw [e, h4]
  unfold gapF
  rw [hr]
  by_cases hz : r = 0
  · rw [if_pos hz, if_pos (by omega)]
  · rw [if_neg hz, if_neg (by omega)]
    have a : Int.gcd (r : Int) (m : Int) = Nat.gcd r m := rfl
    have b : Int.gcd ((r : Int) - 1) (m : Int) = Nat.gcd (r - 1) m := by
      rw [show ((r : Int) - 1) = ((r - 1 : Nat) : Int) by omega]; rfl
    rw [a, b]
/-- gaps of the system, told by the flags below the modulus -/
theorem cntF_cnt (P : Int → Bool) : ∀ b : Nat, ((((List.range b).map fun k => P (k : Nat)).count false : Nat) : Int) = cntTo (fun n => (!P n) = true) b
  | 0 => rfl
  | b + 1 => by
    rw [List.range_succ, List.map_append, List.count_append, cntB_succ (fun n => !P n), ← cntF_cnt P b]
    show _ = _ + (if (!P (b : Nat)) = true then 1 else 0)
    cases h : P (b : Nat) <;> simp [h]
theorem sg_gaps {P : Int → Bool} {m : Nat} (S : Sg P m) (hm : m ≤ 700) : gapsN (sgC P m) = ((((List.range m).map fun k => P (k : Nat)).count false : Nat) : Int) := by
  have ho := sg_ok S hm
  obtain ⟨f1, f2, f3⟩ := frob_ok ho
  have m1 := S.m1
  have hf : frobI (sgC P m) < (m : Int) := by
    refine Int.not_le.mp fun z => f3 ((sg_pays S (by omega)).mpr (S.top _ z))
  rw [cntF_cnt]
  refine (gap_count ho (P := fun n => n < 0 ∨ (!P n) = true) (fun n => ?_) (N := m) hf).symm.trans ?_
  · by_cases h : 0 ≤ n
    · rw [sg_pays S h, Bool.not_eq_true', Bool.not_eq_true]
      constructor
      · rintro (h2 | h2)
        · omega
        · exact h2
      · exact .inr
    · exact ⟨fun _ p => h (pays_nonneg ho p), fun _ => .inl (by omega)⟩
  · have key : ∀ b : Nat, cntTo (fun n => n < 0 ∨ (!P n) = true) b = cntTo (fun n => (!P n) = true) b := fun b => by
      induction b with
      | zero => rfl
      | succ b ih =>
        rw [cntTo_succ, cntTo_succ, ih]
        congr 1
        by_cases h : (!P (b : Nat)) = true
        · rw [if_pos (.inr h), if_pos h]
        · rw [if_neg (fun z => z.elim (fun z => by omega) h), if_neg h]
    exact key m
/-- the numbers kept that are no two kept ones -/
def irrB (P : Int → Bool) (n : Int) : Bool := P n && !((rangeI 1 (n - 1).toNat).any fun p => P p && P (n - p))
theorem sg_needed {P : Int → Bool} {m : Nat} (S : Sg P m) (hm : m ≤ 700) {b : Nat} (hb : 2 * m ≤ b) : nd (sgC P m) = (rangeI 1 (b - 1)).filter (irrB P) := by
  have ho := sg_ok S hm
  obtain ⟨M, So⟩ := sys_ok ho
  obtain ⟨l0, l1, l2⟩ := la_ok S
  obtain ⟨f1, f2, f3, _, _⟩ := fi_ok S
  refine lt_uniq So.srt (rangeI_lt.filter _) fun c => ?_
  rw [nd_irr ho, List.mem_filter, rangeI_mem]
  have bound : c ∈ nd (sgC P m) → c < (b : Int) := fun h => by
    have h1 := (nd_ok ho).1 c h
    have sub := leastL_sub (coL P m) []
    rw [List.nil_append] at sub
    have := co_mem S (sub.subset h1)
    omega
  constructor
  · intro h
    have hb2 := bound ((nd_irr ho).mpr h)
    obtain ⟨h1, h2, h3⟩ := h
    refine ⟨⟨h1, by omega⟩, ?_⟩
    unfold irrB
    rw [(sg_pays S (by omega)).mp h2, Bool.true_and, Bool.not_eq_true', List.any_eq_false]
    intro p hp hh
    have hp := rangeI_mem.mp hp
    obtain ⟨a1, a2⟩ := Bool.and_eq_true_iff.mp hh
    exact h3 p (c - p) (by omega) (by omega) (by omega) ((sg_pays S (by omega)).mpr a1) ((sg_pays S (by omega)).mpr a2)
  · rintro ⟨⟨h1, h2⟩, h3⟩
    unfold irrB at h3
    obtain ⟨a1, a2⟩ := Bool.and_eq_true_iff.mp h3
    rw [Bool.not_eq_true', List.any_eq_false] at a2
    refine ⟨h1, (sg_pays S (by omega)).mpr a1, fun x y hx hy e px py => ?_⟩
    refine a2 x (rangeI_mem.mpr ⟨hx, by omega⟩) ?_
    rw [(sg_pays S (by omega)).mp px, show c - x = y by omega, (sg_pays S (by omega)).mp py]
    rfl
end KK
namespace KK
open PySem PySem.Spec PyProof.Rows L2 VL
theorem sg_paysB {P : Int → Bool} {m : Nat} (S : Sg P m) (hm : m ≤ 700) {n : Int} (hn : 0 ≤ n) : paysB (sgC P m) n = P n := by
  rw [Bool.eq_iff_iff, paysB_iff (sg_ok S hm), sg_pays S hn]
theorem sg_frob {P : Int → Bool} {m : Nat} (S : Sg P m) (hm : m ≤ 700) : frobI (sgC P m) < (m : Int) := by
  obtain ⟨f1, f2, f3⟩ := frob_ok (sg_ok S hm)
  have := S.m1
  refine Int.not_le.mp fun z => f3 ((sg_pays S (by omega)).mpr (S.top _ z))
theorem nd_flags {cs : List Int} (h : okC cs = true) {P : Int → Bool} {m : Nat} (S : Sg P m) (hm : m ≤ 700) {b : Nat} (hmb : m ≤ b) (hf : frobI cs < (b : Int)) : decide (nd (sgC P m) = nd cs) = decide (((List.range b).map fun k => P (k : Nat)) = (List.range b).map fun k => paysB cs (k : Nat)) := by
  refine decide_eq_decide.mpr ?_
  rw [nd_eq_iff (sg_ok S hm) h]
  obtain ⟨f1, f2, f3⟩ := frob_ok h
  constructor
  · intro hp
    refine List.map_inj_left.mpr fun k _ => ?_
    rw [Bool.eq_iff_iff, paysB_iff h, ← hp (k : Nat) (by omega), sg_pays S (by omega)]
  · intro hp n hn
    rw [sg_pays S hn]
    by_cases hb : n < (b : Int)
    · obtain ⟨k, rfl⟩ := nat_of hn
      have := List.map_inj_left.mp hp k (List.mem_range.mpr (by omega))
      rw [this, paysB_iff h]
    · exact ⟨fun _ => f2 n (by omega), fun _ => S.top n (by omega)⟩
theorem pk_head {P : Int → Bool} {m : Nat} (S : Sg P m) : ∃ x : Nat, (pkL P m)[0]? = some (x : Int) ∧ 1 ≤ x ∧ x ≤ m ∧ P (x : Nat) = true ∧ ∀ y : Int, 1 ≤ y → y < (x : Int) → P y = false := by
  have m1 := S.m1
  have hmem : (m : Int) ∈ pkL P m := List.mem_filter.mpr ⟨rangeI_mem.mpr ⟨by omega, by omega⟩, S.top _ (Int.le_refl _)⟩
  have hs : (pkL P m).Pairwise (· < ·) := rangeI_lt.filter _
  have hall : ∀ y ∈ pkL P m, (1 ≤ y ∧ y ≤ (m : Int)) ∧ P y = true := fun y hy => by
    obtain ⟨a, b⟩ := List.mem_filter.mp hy
    have := rangeI_mem.mp a
    exact ⟨by omega, b⟩
  have hin : ∀ y : Int, 1 ≤ y → y ≤ (m : Int) → P y = true → y ∈ pkL P m := fun y h1 h2 h3 => List.mem_filter.mpr ⟨rangeI_mem.mpr ⟨h1, by omega⟩, h3⟩
  generalize pkL P m = l at *
  cases l with
  | nil => cases hmem
  | cons x t =>
    have hx := hall x List.mem_cons_self
    obtain ⟨k, rfl⟩ := nat_of (show 0 ≤ x by omega)
    refine ⟨k, rfl, by omega, by omega, hx.2, fun y h1 h2 => ?_⟩
    refine Bool.eq_false_iff.mpr fun hp => ?_
    have hy := hin y h1 (by omega) hp
    rw [List.pairwise_cons] at hs
    rcases List.mem_cons.mp hy with e | hy
    · omega
    · have := hs.1 y hy; omega
end KK
end

section
set_option Elab.async false
set_option linter.all false
set_option maxRecDepth 100000
set_option maxHeartbeats 4000000
namespace KK
open PySem PySem.Spec PyProof.Rows L2 VL
abbrev s_check_rule : Stmt := topS 32
abbrev N_check_rule : List Str := ["factor", "modulus", "share"]
theorem sc_check_rule : FnScope N_check_rule ["factor", "modulus", "share"] (defScope s_check_rule) := ⟨rfl, rfl, rfl, by decide +kernel, rfl, by decide +kernel, by decide +kernel⟩
variable {P : Program} {w : World} {K : PySem.W.Frag} {mg : Str → Option Value} {base : Heap} {f aCoinError aBadNumber aNoSystem aBadCoins aTooMany aSystem : Addr} {fd : FuncData}
def ruleQ (d1 d2 d3 : D) : Bool := within d2 2 c_MOST_SIZE && (within d1 1 c_MOST_SIZE && within d3 1 c_MOST_SIZE)
def A_check_rule (aN : Addr) (ds : List D) (r : Res) : Prop := ∃ d1 d2 d3 : D, ds = [d1, d2, d3] ∧ plD d1 = true ∧ plD d2 = true ∧ plD d3 = true ∧ r = okR (ruleQ d1 d2 d3) (.ok .non) aN
theorem ruleQ_iv {d1 d2 d3 : D} (h : ruleQ d1 d2 d3 = true) : ∃ f m s : Int, d1 = .int f ∧ d2 = .int m ∧ d3 = .int s ∧ (1 ≤ f ∧ f ≤ c_MOST_SIZE) ∧ (2 ≤ m ∧ m ≤ c_MOST_SIZE) ∧ (1 ≤ s ∧ s ≤ c_MOST_SIZE) := by
  unfold ruleQ at h
  obtain ⟨h2, h13⟩ := Bool.and_eq_true_iff.mp h
  obtain ⟨h1, h3⟩ := Bool.and_eq_true_iff.mp h13
  obtain ⟨e1, a1, b1⟩ := within_iv h1
  obtain ⟨e2, a2, b2⟩ := within_iv h2
  obtain ⟨e3, a3, b3⟩ := within_iv h3
  exact ⟨_, _, _, e1, e2, e3, ⟨a1, b1⟩, ⟨a2, b2⟩, ⟨a3, b3⟩⟩
theorem ruleQ_of {f m s : Int} (h1 : 1 ≤ f ∧ f ≤ c_MOST_SIZE) (h2 : 2 ≤ m ∧ m ≤ c_MOST_SIZE) (h3 : 1 ≤ s ∧ s ≤ c_MOST_SIZE) : ruleQ (.int f) (.int m) (.int s) = true := by
  unfold ruleQ
  rw [within_of h2.1 h2.2, within_of h1.1 h1.2, within_of h3.1 h3.2]; rfl
theorem ms_lt {x : Int} (h0 : 0 ≤ x) (h : x ≤ c_MOST_SIZE) : Lt2 100 x := by unfold c_MOST_SIZE at h; unfold Lt2; omega
theorem ms_le {x : Int} (h : x ≤ 10 ^ 28) : x ≤ c_MOST_SIZE := by unfold c_MOST_SIZE; omega
theorem mulS {x y : Int} (h1 : Lt2 300 x) (h2 : Lt2 300 y) : CMulW x y := mulW_of h1 h2 (by decide)
theorem gt_not (a b : Int) : decide (b < a) = !decide (a ≤ b) := by rw [← decide_not]; exact decide_eq_decide.mpr (by omega)
theorem ok_check_rule (T : Blt mg) (E_BadNumber : EX0 P w K mg base "BadNumber" aBadNumber) (F_is_within : FnV P w K mg base 2 "is_within" (detS A_is_within)) (Fu : Fun K "check_rule" "check_rule" s_check_rule f fd) (hb : Binds K fd ["factor", "modulus", "share"] []) (hm : mg "check_rule" = some (.ref f)) : FnV P w K mg base 3 "check_rule" (detS (A_check_rule aBadNumber)) := by
  refine fn_pure (k := 2) Fu sc_check_rule hb hm (fun ds r ⟨d, d2, d3, e, _⟩ => by subst e; rfl) fun cdv A' outer s H E hr B ds r ⟨d1, d2, d3, e, hp1, hp2, hp3, er⟩ => ?_
  subst e er
  have TN := E_BadNumber (cx P w K mg base N_check_rule "check_rule" s_check_rule f cdv A' outer s H E) rfl rfl rfl rfl rfl
  refine css_check (b := within d2 2 c_MOST_SIZE) (t_not (t_val (c_call F_is_within (hr.mono (by decide)) (d_cons (c_var 1) (d_cons c_int (d_cons (c_gint T.MOST_SIZE) d_nil))) (fun R h => ⟨_, _, rfl, ⟨_, _, _, rfl, hp2, rfl⟩, h⟩)))) B TN (fun h => okR_f (by unfold ruleQ; rw [h]; rfl)) (fun h2 => ?_)
  refine css_check (b := within d1 1 c_MOST_SIZE && within d3 1 c_MOST_SIZE) (CT.eq (t_w (w_or (t_not (t_val (c_call F_is_within (hr.mono (by decide)) (d_cons (c_var 0) (d_cons c_int (d_cons (c_gint T.MOST_SIZE) d_nil))) (fun R h => ⟨_, _, rfl, ⟨_, _, _, rfl, hp1, rfl⟩, h⟩)))) (fun _ => w_or1 (t_not (t_val (c_call F_is_within (hr.mono (by decide)) (d_cons (c_var 2) (d_cons c_int (d_cons (c_gint T.MOST_SIZE) d_nil))) (fun R h => ⟨_, _, rfl, ⟨_, _, _, rfl, hp3, rfl⟩, h⟩))))))) or2) B TN (fun h => okR_f (by unfold ruleQ; rw [h, h2]; rfl)) (fun h => css_nil (okR_t (by unfold ruleQ; rw [h, h2]; rfl)))
end KK
end

section
set_option Elab.async false
set_option linter.all false
set_option maxRecDepth 100000
set_option maxHeartbeats 4000000
namespace KK
open PySem PySem.Spec PyProof.Rows L2 VL
abbrev s_rule_holds : Stmt := topS 33
abbrev N_rule_holds : List Str := ["factor", "modulus", "share", "number"]
theorem sc_rule_holds : FnScope N_rule_holds ["factor", "modulus", "share", "number"] (defScope s_rule_holds) := ⟨rfl, rfl, rfl, by decide +kernel, rfl, by decide +kernel, by decide +kernel⟩
variable {P : Program} {w : World} {K : PySem.W.Frag} {mg : Str → Option Value} {base : Heap} {f aCoinError aBadNumber aNoSystem aBadCoins aTooMany aSystem : Addr} {fd : FuncData}
def A_rule_holds (aN : Addr) (ds : List D) (r : Res) : Prop := ∃ d1 d2 d3 d4 : D, ds = [d1, d2, d3, d4] ∧ plD d1 = true ∧ plD d2 = true ∧ plD d3 = true ∧ plD d4 = true ∧ r = okR (ruleQ d1 d2 d3 && within d4 0 c_MOST_SIZE) (.ok (.bl (ruleB (iv d1) (iv d2) (iv d3) (iv d4)))) aN
theorem ok_rule_holds (T : Blt mg) (E_BadNumber : EX0 P w K mg base "BadNumber" aBadNumber) (F_check_rule : FnV P w K mg base 3 "check_rule" (detS (A_check_rule aBadNumber))) (F_is_within : FnV P w K mg base 2 "is_within" (detS A_is_within)) (Fu : Fun K "rule_holds" "rule_holds" s_rule_holds f fd) (hb : Binds K fd ["factor", "modulus", "share", "number"] []) (hm : mg "rule_holds" = some (.ref f)) : FnV P w K mg base 4 "rule_holds" (detS (A_rule_holds aBadNumber)) := by
  refine fn_pure (k := 3) Fu sc_rule_holds hb hm (fun ds r ⟨d, d2, d3, d4, e, _⟩ => by subst e; rfl) fun cdv A' outer s H E hr B ds r ⟨d1, d2, d3, d4, e, hp1, hp2, hp3, hp4, er⟩ => ?_
  subst e er
  have TN := E_BadNumber (cx P w K mg base N_rule_holds "rule_holds" s_rule_holds f cdv A' outer s H E) rfl rfl rfl rfl rfl
  refine css_exprR (r := okR (ruleQ d1 d2 d3) (.ok .non) aBadNumber) (q_callD F_check_rule (hr.mono (by decide)) (d_cons (c_var 0) (d_cons (c_var 1) (d_cons (c_var 2) d_nil))) ⟨_, _, _, rfl, hp1, hp2, hp3, rfl⟩) (fun x hx => ?_) (fun er hx => ?_)
  · have hq : ruleQ d1 d2 d3 = true := by cases q : ruleQ d1 d2 d3 <;> first | rfl | (rw [okR_f q] at hx; cases hx)
    refine css_check (b := within d4 0 c_MOST_SIZE) (t_not (t_val (c_call F_is_within (hr.mono (by decide)) (d_cons (c_var 3) (d_cons c_int (d_cons (c_gint T.MOST_SIZE) d_nil))) (fun R h => ⟨_, _, rfl, ⟨_, _, _, rfl, hp4, rfl⟩, h⟩)))) B TN (fun h => okR_f (by rw [hq, h]; rfl)) (fun h => ?_)
    rw [okR_t (by rw [hq, h]; rfl)]
    obtain ⟨e4, l4, u4⟩ := within_iv h
    obtain ⟨f1, m1, s1, rfl, rfl, rfl, hf, hm1, hs⟩ := ruleQ_iv hq
    generalize iv d4 = n at *
    subst e4
    exact css_ret (d := .bl (ruleB f1 m1 s1 n)) (c_le (c_mod (c_mulW (c_var 0) (c_var 3) (mulS ((ms_lt (by omega) hf.2).mono (by decide)) ((ms_lt l4 u4).mono (by decide)))) (c_var 1) (by omega)) (c_mulW (c_var 2) (c_var 3) (mulS ((ms_lt (by omega) hs.2).mono (by decide)) ((ms_lt l4 u4).mono (by decide))))) rfl
  · have hq : ruleQ d1 d2 d3 = false := by cases q : ruleQ d1 d2 d3 <;> first | rfl | (rw [okR_t q] at hx; cases hx)
    rw [okR_f hq] at hx
    cases hx
    exact okR_f (by rw [hq]; rfl)
end KK
end

section
set_option Elab.async false
set_option linter.all false
set_option maxRecDepth 100000
set_option maxHeartbeats 4000000
namespace KK
open PySem PySem.Spec PyProof.Rows L2 VL
abbrev s_rule_system : Stmt := topS 34
abbrev N_rule_system : List Str := ["factor", "modulus", "share", "paid", "gone", "last", "small", "first", "number"]
theorem sc_rule_system : FnScope N_rule_system ["factor", "modulus", "share"] (defScope s_rule_system) := ⟨rfl, rfl, rfl, by decide +kernel, rfl, by decide +kernel, by decide +kernel⟩
variable {P : Program} {w : World} {K : PySem.W.Frag} {mg : Str → Option Value} {base : Heap} {f aCoinError aBadNumber aNoSystem aBadCoins aTooMany aSystem : Addr} {fd : FuncData}
def A_rule_system (C aN aT : Addr) (ds : List D) (r : Res) : Prop := ∃ d1 d2 d3 : D, ds = [d1, d2, d3] ∧ plD d1 = true ∧ plD d2 = true ∧ plD d3 = true ∧ (ruleQ d1 d2 d3 = false ∧ r = .error ⟨aN, []⟩ ∨ ruleQ d1 d2 d3 = true ∧ 600 < iv d2 ∧ r = .error ⟨aT, [("most", .int 600)]⟩ ∨ ∃ (fa s : Int) (m : Nat), d1 = .int fa ∧ d2 = .int (m : Nat) ∧ d3 = .int s ∧ (1 ≤ fa ∧ fa ≤ c_MOST_SIZE) ∧ (2 ≤ m ∧ m ≤ 600) ∧ (1 ≤ s ∧ s ≤ c_MOST_SIZE) ∧ r = .ok (sysD C (sgC (ruleB fa m s) m)))
theorem ok_rule_system (T : Blt mg) (E_TooMany : EX1 P w K mg base "TooMany" "most" aTooMany) (Y_System : MkS P w K mg base 5 aSystem) (F_check_rule : FnV P w K mg base 3 "check_rule" (detS (A_check_rule aBadNumber))) (F_least_coins : FnV P w K mg base 1 "least_coins" (detS A_least_coins)) (Fu : Fun K "rule_system" "rule_system" s_rule_system f fd) (hb : Binds K fd ["factor", "modulus", "share"] []) (hm : mg "rule_system" = some (.ref f)) : FnV P w K mg base 7 "rule_system" (detS (A_rule_system aSystem aBadNumber aTooMany)) := by
  refine fn_pure (k := 6) Fu sc_rule_system hb hm (fun ds r ⟨d, d2, d3, e, _⟩ => by subst e; rfl) fun cdv A' outer s H E hr B ds r ⟨d1, d2, d3, e, hp1, hp2, hp3, h⟩ => ?_
  subst e
  have TM := E_TooMany (cx P w K mg base N_rule_system "rule_system" s_rule_system f cdv A' outer s H E) rfl rfl rfl rfl rfl
  rcases h with ⟨hq, er⟩ | ⟨hq, hbig, er⟩ | ⟨fa, sh, m, e1, e2, e3, hf, hm1, hs, er⟩
  · subst er
    exact css_exprR (q_callD F_check_rule (hr.mono (by decide)) (d_cons (c_var 0) (d_cons (c_var 1) (d_cons (c_var 2) d_nil))) ⟨_, _, _, rfl, hp1, hp2, hp3, (okR_f hq).symm⟩) (fun _ h => by cases h) (fun er h => by cases h; rfl)
  · subst er
    obtain ⟨f1, m1, s1, rfl, rfl, rfl, hf, hm1, hs⟩ := ruleQ_iv hq
    refine css_exprR (q_callD F_check_rule (hr.mono (by decide)) (d_cons (c_var 0) (d_cons (c_var 1) (d_cons (c_var 2) d_nil))) ⟨_, _, _, rfl, rfl, rfl, rfl, (okR_t hq).symm⟩) (fun _ _ => ?_) (fun er h => by cases h)
    refine css_if (k := true) (CT.eq (t_gt (i := m1) (j := 600) (c_var 1) (c_gint T.MOST_MODULUS)) (decide_eq_true hbig)) (fun _ => ?_) (fun h => Bool.noConfusion h)
    exact css_raise1 B TM (hr.mono (by decide)) (c_gint T.MOST_MODULUS) rfl
  · subst e1 e2 e3 er
    have S : Sg (ruleB fa m sh) m := rule_sg (by omega) hs.1
    obtain ⟨l0, l1, l2⟩ := la_ok S
    obtain ⟨g1, g2, g3, g4, g5⟩ := fi_ok S
    have hok := sg_ok S (by omega)
    have pl : ∀ l : List Int, (∀ p : Int → Bool, l = (rangeI 1 m).filter p → l.length ≤ m) := fun l p e => by
      rw [e]; have := List.length_filter_le p (rangeI 1 m); rwa [rangeI_len] at this
    refine css_exprR (q_callD F_check_rule (hr.mono (by decide)) (d_cons (c_var 0) (d_cons (c_var 1) (d_cons (c_var 2) d_nil))) ⟨_, _, _, rfl, rfl, rfl, rfl, (okR_t (ruleQ_of hf ⟨by omega, ms_le (by omega)⟩ hs)).symm⟩) (fun _ _ => ?_) (fun er h => by cases h)
    refine css_if (k := false) (CT.eq (t_gt (i := (m : Int)) (j := 600) (c_var 1) (c_gint T.MOST_MODULUS)) (decide_eq_false (by omega))) (fun h => Bool.noConfusion h) (fun _ => css_nil ?_)
    have eN : ((m : Int) + 1 - 1).toNat = m := by omega
    have rng : ∀ (g : Int → Bool) (h : D → Bool), (∀ n, h (.int n) = g n) → ((rangeD 1 (((m : Int) + 1 - 1).toNat)).filter h).map (fun d => d) = ((rangeI 1 m).filter g).map D.int := fun g h hg => by
      rw [eN, rangeD_eq, List.map_id', List.filter_map]
      congr 1
      refine List.filter_congr fun n _ => hg n
    refine css_lcF 3 (CL.eq (es2 := (pkL (ruleB fa m sh) m).map D.int) (l_lc1 (T := .nm 8) (fun d => d) (fun d => match d with | .int n => ruleB fa m sh n | _ => false) (ci_range2 T.range c_int (c_add (c_var 1) c_int) ⟨by decide, by decide, by omega, by omega⟩) [("number", 8)] B (blkOk_by (N := N_rule_system) (sc := defScope s_rule_system) (by decide +kernel)) (fun _ _ _ _ _ => tg_nm 8 B.nd) (by decide) (fun k p ds hk h => by rcases List.mem_singleton.mp hk with rfl; cases h) (fun i d hd => ?_) (szl (by rw [rangeD_len]; omega))) (rng _ _ fun _ => rfl)) ?_
    · obtain ⟨hi, rfl⟩ := rangeD_inv hd
      exact ⟨_, .nm, (fun k p es h => by rcases k with _ | _ | _ | _ | _ | _ | _ | _ | _ | k <;> cases h), fun _ _ _ _ _ => t_le (c_mod (c_mul (c_var 0) (c_var 8) (.inr ⟨by omega, by omega⟩)) (c_var 1) (by omega)) (c_mul (c_var 2) (c_var 8) (.inr ⟨by omega, by omega⟩)), fun _ _ _ _ _ _ => c_var 8⟩
    refine css_lcF 4 (CL.eq (es2 := (gnL (ruleB fa m sh) m).map D.int) (l_lc1 (T := .nm 8) (fun d => d) (fun d => match d with | .int n => !ruleB fa m sh n | _ => false) (ci_range2 T.range c_int (c_add (c_var 1) c_int) ⟨by decide, by decide, by omega, by omega⟩) [("number", 8)] B (blkOk_by (N := N_rule_system) (sc := defScope s_rule_system) (by decide +kernel)) (fun _ _ _ _ _ => tg_nm 8 B.nd) (by decide) (fun k p ds hk h => by rcases List.mem_singleton.mp hk with rfl; cases h) (fun i d hd => ?_) (szl (by rw [rangeD_len]; omega))) (rng _ _ fun _ => rfl)) ?_
    · obtain ⟨hi, rfl⟩ := rangeD_inv hd
      exact ⟨_, .nm, (fun k p es h => by rcases k with _ | _ | _ | _ | _ | _ | _ | _ | _ | k <;> cases h), fun _ _ _ _ _ => CT.eq (t_gt (c_mod (c_mul (c_var 0) (c_var 8) (.inr ⟨by omega, by omega⟩)) (c_var 1) (by omega)) (c_mul (c_var 2) (c_var 8) (.inr ⟨by omega, by omega⟩))) (gt_not _ _), fun _ _ _ _ _ _ => c_var 8⟩
    have pk1 := pl (pkL (ruleB fa m sh) m) _ rfl
    have gn1 := pl (gnL (ruleB fa m sh) m) _ rfl
    have esm : smL (ruleB fa m sh) m = (pkL (ruleB fa m sh) m).filter fun n => decide (n ≤ laI (ruleB fa m sh) m) := rfl
    have ela : laI (ruleB fa m sh) m = (gnL (ruleB fa m sh) m).getLastD 0 := rfl
    have efi : fiI (ruleB fa m sh) m = (smL (ruleB fa m sh) m).headD (laI (ruleB fa m sh) m + 1) := rfl
    have eco : coL (ruleB fa m sh) m = smL (ruleB fa m sh) m ++ rangeI (laI (ruleB fa m sh) m + 1) (fiI (ruleB fa m sh) m).toNat := rfl
    have hco := fun n (h : n ∈ coL (ruleB fa m sh) m) => co_mem S h
    have hcs := co_srt S
    have esg : sgC (ruleB fa m sh) m = leastL [] (coL (ruleB fa m sh) m) := rfl
    generalize sgC (ruleB fa m sh) m = sg at *
    generalize coL (ruleB fa m sh) m = co at *
    generalize fiI (ruleB fa m sh) m = fi at *
    generalize smL (ruleB fa m sh) m = sm at *
    generalize laI (ruleB fa m sh) m = la at *
    generalize pkL (ruleB fa m sh) m = pk at *
    generalize gnL (ruleB fa m sh) m = gn at *
    have hun : (cx P w K mg base N_rule_system "rule_system" s_rule_system f cdv A' outer s H E).A.units + 64 < cLine := by have := hr.un; omega
    refine css_asg 5 B (d := .int la) (CE.eq (c_ite (k := !decide (gn = [])) (x := .int la) (y := .int 0) (t_neLI (xs := gn) (ys := []) hun (c_var 4) (CN.ce (n_lst d_nil (sz (by simp))))) (fun h => c_ixL (c_var 4) (c_neg c_int) (at_last ?_)) (fun _ => c_int)) ?_) ?_
    · rw [Bool.not_eq_true', decide_eq_false_iff_not] at h
      rw [List.length_map, ela, List.getLastD_eq_getLast?, List.getLast?_eq_getElem?]
      have hl := List.length_pos_iff.mpr h
      have : gn[gn.length - 1]? = some gn[gn.length - 1] := List.getElem?_eq_getElem (by omega)
      rw [this]
      exact at_ints this
    · by_cases h : gn = []
      · rw [decide_eq_true h, ela, h]; rfl
      · rw [decide_eq_false h]; rfl
    refine css_lcF 6 (CL.eq (es2 := sm.map D.int) (l_lc1 (T := .nm 8) (fun d => d) (fun d => match d with | .int n => decide (n ≤ la) | _ => false) (ci_list (c_var 3)) [("number", 8)] B (blkOk_by (N := N_rule_system) (sc := defScope s_rule_system) (by decide +kernel)) (fun _ _ _ _ _ => tg_nm 8 B.nd) (by decide) (fun k p ds hk h => by rcases List.mem_singleton.mp hk with rfl; cases h) (fun i d hd => ?_) (szl (by rw [List.length_map]; omega))) (by rw [esm, List.map_id', List.filter_map]; rfl)) ?_
    · obtain ⟨n, _, rfl⟩ := List.mem_map.mp (List.mem_of_getElem? hd)
      exact ⟨_, .nm, (fun k p es h => by rcases k with _ | _ | _ | _ | _ | _ | _ | _ | _ | k <;> cases h), fun _ _ _ _ _ => t_le (c_var 8) (c_var 5), fun _ _ _ _ _ _ => c_var 8⟩
    have sm1 : sm.length ≤ m := by rw [esm]; exact Nat.le_trans (List.length_filter_le _ _) pk1
    refine css_asg 7 B (d := .int fi) (CE.eq (c_ite (k := !decide (sm = [])) (x := .int fi) (y := .int (la + 1)) (t_neLI (xs := sm) (ys := []) hun (c_var 6) (CN.ce (n_lst d_nil (sz (by simp))))) (fun h => c_ixL (c_var 6) c_int (atI_i (k := 0) rfl ?_)) (fun _ => c_add (c_var 5) c_int)) ?_) ?_
    · rw [Bool.not_eq_true', decide_eq_false_iff_not] at h
      refine at_ints ?_
      rw [efi]
      cases sm with
      | nil => exact absurd rfl h
      | cons x l => rfl
    · by_cases h : sm = []
      · rw [decide_eq_true h, efi, h]; rfl
      · rw [decide_eq_false h]; rfl
    have eN2 : (la + 1 + fi - (la + 1)).toNat = fi.toNat := by omega
    have hcol : co.length ≤ 2000 := by rw [eco, List.length_append, rangeI_len]; omega
    refine css_ret (d := sysD aSystem sg) (c_sys Y_System (hr.mono (by decide)) (c_tupL T.tuple (c_call (d := .lst (sg.map D.int)) F_least_coins (hr.mono (by decide)) (d_cons (CE.eq (y := .lst (co.map D.int)) (CN.ce (n_catL (c_var 6) (CN.ce (n_listRg2 B.calm T.range T.list (c_add (c_var 5) c_int) (c_add (c_add (c_var 5) c_int) (c_var 7)) ⟨by omega, by omega, by omega, by omega, by omega⟩)) (sz ?_))) ?_) d_nil) (fun R h => ⟨_, _, rfl, ⟨co, rfl, (fun e => by rw [e] at g5; cases g5), hcs, (fun c hc => by have := hco c hc; omega), by omega, by rw [esg]⟩, h⟩))) hok) rfl
    · rw [List.length_map, List.length_map, rangeI_len]; omega
    · rw [eN2, eco, List.map_append]
end KK
end

section
set_option Elab.async false
set_option linter.all false
set_option maxRecDepth 100000
set_option maxHeartbeats 4000000
namespace KK
open PySem PySem.Spec PyProof.Rows L2 VL
abbrev s_rule_gaps : Stmt := topS 35
abbrev N_rule_gaps : List Str := ["factor", "modulus", "rest"]
theorem sc_rule_gaps : FnScope N_rule_gaps ["factor", "modulus"] (defScope s_rule_gaps) := ⟨rfl, rfl, rfl, by decide +kernel, rfl, by decide +kernel, by decide +kernel⟩
variable {P : Program} {w : World} {K : PySem.W.Frag} {mg : Str → Option Value} {base : Heap} {f aCoinError aBadNumber aNoSystem aBadCoins aTooMany aSystem : Addr} {fd : FuncData}
def A_rule_gaps (aN : Addr) (ds : List D) (r : Res) : Prop := ∃ d1 d2 : D, ds = [d1, d2] ∧ plD d1 = true ∧ plD d2 = true ∧ r = okR (ruleQ d1 d2 (.int 1)) (.ok (.int (gapF (iv d1) (iv d2)))) aN
theorem ok_rule_gaps (T : Blt mg) (F_check_rule : FnV P w K mg base 3 "check_rule" (detS (A_check_rule aBadNumber))) (F_common : FnV P w K mg base 1 "common" (detS A_common)) (Fu : Fun K "rule_gaps" "rule_gaps" s_rule_gaps f fd) (hb : Binds K fd ["factor", "modulus"] []) (hm : mg "rule_gaps" = some (.ref f)) : FnV P w K mg base 4 "rule_gaps" (detS (A_rule_gaps aBadNumber)) := by
  refine fn_pure (k := 3) Fu sc_rule_gaps hb hm (fun ds r ⟨d, d2, e, _⟩ => by subst e; rfl) fun cdv A' outer s H E hr B ds r ⟨d1, d2, e, hp1, hp2, er⟩ => ?_
  subst e er
  refine css_exprR (r := okR (ruleQ d1 d2 (.int 1)) (.ok .non) aBadNumber) (q_callD F_check_rule (hr.mono (by decide)) (d_cons (c_var 0) (d_cons (c_var 1) (d_cons c_int d_nil))) ⟨_, _, _, rfl, hp1, hp2, rfl, rfl⟩) (fun x hx => ?_) (fun er hx => ?_)
  · have hq : ruleQ d1 d2 (.int 1) = true := by cases q : ruleQ d1 d2 (.int 1) <;> first | rfl | (rw [okR_f q] at hx; cases hx)
    rw [okR_t hq]
    obtain ⟨f1, m1, s1, rfl, rfl, _, hf, hm1, _⟩ := ruleQ_iv hq
    refine css_asg 2 B (d := .int (f1 % m1)) (c_mod (c_var 0) (c_var 1) (by omega)) ?_
    show CSs _ _ _ { nx := fun _ => (Except.ok (D.int (gapF f1 m1)) : Res) = .ok D.non, rt := fun d _ => (Except.ok (D.int (gapF f1 m1)) : Res) = .ok d, er := fun e _ => (Except.ok (D.int (gapF f1 m1)) : Res) = .error e }
    unfold gapF
    refine css_if (t_eqI (c_var 2) c_int) (fun h => ?_) (fun h => css_nil ?_)
    · rw [if_pos (of_decide_eq_true h)]
      exact css_ret c_int rfl
    · rw [if_neg (of_decide_eq_false h)]
      exact css_ret (c_div (c_sub (c_sub (c_add (c_var 1) c_int) (c_call F_common (hr.mono (by decide)) (d_cons (c_var 2) (d_cons (c_var 1) d_nil)) (fun R h => ⟨_, _, rfl, ⟨_, _, rfl, rfl⟩, h⟩))) (c_call F_common (hr.mono (by decide)) (d_cons (c_sub (c_var 2) c_int) (d_cons (c_var 1) d_nil)) (fun R h => ⟨_, _, rfl, ⟨_, _, rfl, rfl⟩, h⟩))) c_int ⟨by decide, by decide⟩) rfl
  · have hq : ruleQ d1 d2 (.int 1) = false := by cases q : ruleQ d1 d2 (.int 1) <;> first | rfl | (rw [okR_t q] at hx; cases hx)
    rw [okR_f hq] at hx
    cases hx
    exact okR_f hq
end KK
end

section
set_option Elab.async false
set_option linter.all false
set_option maxRecDepth 100000
set_option maxHeartbeats 4000000
namespace KK
open PySem PySem.Spec PyProof.Rows L2 VL
abbrev s_rule_mirror : Stmt := topS 36
abbrev N_rule_mirror : List Str := ["factor", "modulus", "number", "rest"]
theorem sc_rule_mirror : FnScope N_rule_mirror ["factor", "modulus", "number"] (defScope s_rule_mirror) := ⟨rfl, rfl, rfl, by decide +kernel, rfl, by decide +kernel, by decide +kernel⟩
variable {P : Program} {w : World} {K : PySem.W.Frag} {mg : Str → Option Value} {base : Heap} {f aCoinError aBadNumber aNoSystem aBadCoins aTooMany aSystem : Addr} {fd : FuncData}
def A_rule_mirror (aN : Addr) (ds : List D) (r : Res) : Prop := ∃ d1 d2 d3 : D, ds = [d1, d2, d3] ∧ plD d1 = true ∧ plD d2 = true ∧ plD d3 = true ∧ r = okR (ruleQ d1 d2 (.int 1) && within d3 0 (iv d2)) (.ok (.tup [.bl (ruleB (iv d1) (iv d2) 1 (iv d3)), .bl (ruleB (iv d1) (iv d2) 1 (iv d2 - iv d3))])) aN
theorem ok_rule_mirror (T : Blt mg) (E_BadNumber : EX0 P w K mg base "BadNumber" aBadNumber) (F_check_rule : FnV P w K mg base 3 "check_rule" (detS (A_check_rule aBadNumber))) (F_is_within : FnV P w K mg base 2 "is_within" (detS A_is_within)) (Fu : Fun K "rule_mirror" "rule_mirror" s_rule_mirror f fd) (hb : Binds K fd ["factor", "modulus", "number"] []) (hm : mg "rule_mirror" = some (.ref f)) : FnV P w K mg base 4 "rule_mirror" (detS (A_rule_mirror aBadNumber)) := by
  refine fn_pure (k := 3) Fu sc_rule_mirror hb hm (fun ds r ⟨d, d2, d3, e, _⟩ => by subst e; rfl) fun cdv A' outer s H E hr B ds r ⟨d1, d2, d3, e, hp1, hp2, hp3, er⟩ => ?_
  subst e er
  have TN := E_BadNumber (cx P w K mg base N_rule_mirror "rule_mirror" s_rule_mirror f cdv A' outer s H E) rfl rfl rfl rfl rfl
  refine css_exprR (r := okR (ruleQ d1 d2 (.int 1)) (.ok .non) aBadNumber) (q_callD F_check_rule (hr.mono (by decide)) (d_cons (c_var 0) (d_cons (c_var 1) (d_cons c_int d_nil))) ⟨_, _, _, rfl, hp1, hp2, rfl, rfl⟩) (fun x hx => ?_) (fun er hx => ?_)
  · have hq : ruleQ d1 d2 (.int 1) = true := by cases q : ruleQ d1 d2 (.int 1) <;> first | rfl | (rw [okR_f q] at hx; cases hx)
    obtain ⟨f1, m1, s1, rfl, rfl, _, hf, hm1, _⟩ := ruleQ_iv hq
    refine css_check (b := within d3 0 m1) (t_not (t_val (c_call F_is_within (hr.mono (by decide)) (d_cons (c_var 2) (d_cons c_int (d_cons (c_var 1) d_nil))) (fun R h => ⟨_, _, rfl, ⟨_, _, _, rfl, hp3, rfl⟩, h⟩)))) B TN (fun h => okR_f (by rw [hq, show iv (.int m1) = m1 from rfl, h]; rfl)) (fun h => ?_)
    rw [okR_t (by rw [hq, show iv (.int m1) = m1 from rfl, h]; rfl)]
    obtain ⟨e3, l3, u3⟩ := within_iv h
    generalize iv d3 = n at *
    subst e3
    have r0 := Int.emod_nonneg f1 (show m1 ≠ 0 by omega)
    have r1 := Int.emod_lt_of_pos f1 (show 0 < m1 by omega)
    refine css_asg 3 B (d := .int (f1 % m1)) (c_mod (c_var 0) (c_var 1) (by omega)) ?_
    have q0 : Lt2 300 (f1 % m1) := (ms_lt (by omega) (by omega)).mono (by decide)
    refine css_ret (CE.eq (y := .tup [.bl (ruleB f1 m1 1 n), .bl (ruleB f1 m1 1 (m1 - n))]) (c_tup (d_cons (c_le (c_mod (c_mulW (c_var 3) (c_var 2) (mulS q0 ((ms_lt (by omega) (by omega)).mono (by decide)))) (c_var 1) (by omega)) (c_var 2)) (d_cons (c_le (c_mod (c_mulW (c_var 3) (c_sub (c_var 1) (c_var 2)) (mulS q0 ((ms_lt (by omega) (by omega)).mono (by decide)))) (c_var 1) (by omega)) (c_sub (c_var 1) (c_var 2))) d_nil)) (sz (by simp))) ?_) rfl
    rw [← rule_rest f1 m1 1 n, ← rule_rest f1 m1 1 (m1 - n)]
    unfold ruleB
    rw [Int.one_mul, Int.one_mul]
  · have hq : ruleQ d1 d2 (.int 1) = false := by cases q : ruleQ d1 d2 (.int 1) <;> first | rfl | (rw [okR_t q] at hx; cases hx)
    rw [okR_f hq] at hx
    cases hx
    exact okR_f (by rw [hq]; rfl)
end KK
end

section
set_option Elab.async false
set_option linter.all false
set_option maxRecDepth 100000
set_option maxHeartbeats 4000000
namespace KK
open PySem PySem.Spec PyProof.Rows L2 VL
abbrev s_least_kept : Stmt := topS 37
abbrev N_least_kept : List Str := ["factor", "modulus", "share", "number"]
theorem sc_least_kept : FnScope N_least_kept ["factor", "modulus", "share"] (defScope s_least_kept) := ⟨rfl, rfl, rfl, by decide +kernel, rfl, by decide +kernel, by decide +kernel⟩
variable {P : Program} {w : World} {K : PySem.W.Frag} {mg : Str → Option Value} {base : Heap} {f aCoinError aBadNumber aNoSystem aBadCoins aTooMany aSystem : Addr} {fd : FuncData}
def A_least_kept (aN aT : Addr) (ds : List D) (r : Res) : Prop := ∃ d1 d2 d3 : D, ds = [d1, d2, d3] ∧ plD d1 = true ∧ plD d2 = true ∧ plD d3 = true ∧ (ruleQ d1 d2 d3 = false ∧ r = .error ⟨aN, []⟩ ∨ ruleQ d1 d2 d3 = true ∧ 360000 < iv d2 ∧ r = .error ⟨aT, [("most", .int 360000)]⟩ ∨ ∃ (fa s : Int) (m x : Nat), d1 = .int fa ∧ d2 = .int (m : Nat) ∧ d3 = .int s ∧ (1 ≤ fa ∧ fa ≤ c_MOST_SIZE) ∧ (2 ≤ m ∧ m ≤ 360000) ∧ (1 ≤ s ∧ s ≤ c_MOST_SIZE) ∧ 1 ≤ x ∧ ruleB fa m s x = true ∧ (∀ y : Int, 1 ≤ y → y < x → ruleB fa m s y = false) ∧ r = .ok (.int (x : Nat)))
theorem ok_least_kept (T : Blt mg) (E_TooMany : EX1 P w K mg base "TooMany" "most" aTooMany) (F_check_rule : FnV P w K mg base 3 "check_rule" (detS (A_check_rule aBadNumber))) (Fu : Fun K "least_kept" "least_kept" s_least_kept f fd) (hb : Binds K fd ["factor", "modulus", "share"] []) (hm : mg "least_kept" = some (.ref f)) : FnV P w K mg base 4 "least_kept" (detS (A_least_kept aBadNumber aTooMany)) := by
  refine fn_pure (k := 3) Fu sc_least_kept hb hm (fun ds r ⟨d, d2, d3, e, _⟩ => by subst e; rfl) fun cdv A' outer s H E hr B ds r ⟨d1, d2, d3, e, hp1, hp2, hp3, h⟩ => ?_
  subst e
  have TM := E_TooMany (cx P w K mg base N_least_kept "least_kept" s_least_kept f cdv A' outer s H E) rfl rfl rfl rfl rfl
  rcases h with ⟨hq, er⟩ | ⟨hq, hbig, er⟩ | ⟨fa, sh, m, x, e1, e2, e3, hf, hm1, hs, x1, hx, hmin, er⟩
  · subst er
    exact css_exprR (q_callD F_check_rule (hr.mono (by decide)) (d_cons (c_var 0) (d_cons (c_var 1) (d_cons (c_var 2) d_nil))) ⟨_, _, _, rfl, hp1, hp2, hp3, (okR_f hq).symm⟩) (fun _ h => by cases h) (fun er h => by cases h; rfl)
  · subst er
    obtain ⟨f1, m1, s1, rfl, rfl, rfl, hf, hm1, hs⟩ := ruleQ_iv hq
    refine css_exprR (q_callD F_check_rule (hr.mono (by decide)) (d_cons (c_var 0) (d_cons (c_var 1) (d_cons (c_var 2) d_nil))) ⟨_, _, _, rfl, rfl, rfl, rfl, (okR_t hq).symm⟩) (fun _ _ => ?_) (fun er h => by cases h)
    refine css_if (k := true) (CT.eq (t_gt (i := m1) (j := 360000) (c_var 1) (CE.eq (c_mul (c_gint T.MOST_MODULUS) (c_gint T.MOST_MODULUS) (.inl ⟨by decide, by decide⟩)) rfl)) (decide_eq_true hbig)) (fun _ => ?_) (fun h => Bool.noConfusion h)
    exact css_raise1 B TM (hr.mono (by decide)) (CE.eq (c_mul (c_gint T.MOST_MODULUS) (c_gint T.MOST_MODULUS) (.inl ⟨by decide, by decide⟩)) rfl) rfl
  · subst e1 e2 e3 er
    have S : Sg (ruleB fa m sh) m := rule_sg (by omega) hs.1
    have xm : x ≤ m := Nat.le_of_not_lt fun z => by
      have := hmin (m : Nat) (by omega) (by omega)
      rw [S.top _ (Int.le_refl _)] at this
      cases this
    refine css_exprR (q_callD F_check_rule (hr.mono (by decide)) (d_cons (c_var 0) (d_cons (c_var 1) (d_cons (c_var 2) d_nil))) ⟨_, _, _, rfl, rfl, rfl, rfl, (okR_t (ruleQ_of hf ⟨by omega, ms_le (by omega)⟩ hs)).symm⟩) (fun _ _ => ?_) (fun er h => by cases h)
    refine css_if (k := false) (CT.eq (t_gt (i := (m : Int)) (j := 360000) (c_var 1) (CE.eq (c_mul (c_gint T.MOST_MODULUS) (c_gint T.MOST_MODULUS) (.inl ⟨by decide, by decide⟩)) rfl)) (decide_eq_false (by omega))) (fun h => Bool.noConfusion h) (fun _ => css_nil ?_)
    refine css_asg 3 B c_int ?_
    refine css_while B (fun t ρ => ∃ k : Nat, 1 ≤ k ∧ k ≤ x ∧ t = x - k ∧ ρ = [.dat (.int fa), .dat (.int (m : Nat)), .dat (.int sh), .dat (.int (k : Nat))]) (x - 1) ⟨1, by omega, x1, rfl, rfl⟩ fun t ρ ⟨k, k1, k2, et, e⟩ => ?_
    subst e
    refine ⟨!ruleB fa m sh k, _, CT.eq (t_gt (c_mod (c_mul (c_var 0) (c_var 3) (.inr ⟨by omega, by omega⟩)) (c_var 1) (by omega)) (c_mul (c_var 2) (c_var 3) (.inr ⟨by omega, by omega⟩))) (gt_not _ _), fun h => ?_, fun h => ?_⟩
    · rw [Bool.not_eq_true'] at h
      have : k ≠ x := fun e => by rw [e, hx] at h; cases h
      exact css_asg 3 B (d := .int ((k + 1 : Nat) : Int)) (CE.eq (c_add (c_var 3) c_int) (congrArg D.int (by omega))) (css_nil ⟨x - (k + 1), by omega, k + 1, by omega, by omega, rfl, rfl⟩)
    · rw [Bool.not_eq_false'] at h
      have : k = x := by
        refine Classical.byContradiction fun ne => ?_
        have := hmin (k : Nat) (by omega) (by omega)
        rw [h] at this
        cases this
      subst this
      exact css_ret (c_var 3) rfl
end KK
end

section
set_option Elab.async false
set_option linter.all false
set_option maxRecDepth 100000
set_option maxHeartbeats 4000000
namespace KK
open PySem PySem.Spec PyProof.Rows L2 VL
abbrev s_same_rule : Stmt := topS 38
abbrev N_same_rule : List Str := ["one", "other", "modulus", "number"]
theorem sc_same_rule : FnScope N_same_rule ["one", "other", "modulus"] (defScope s_same_rule) := ⟨rfl, rfl, rfl, by decide +kernel, rfl, by decide +kernel, by decide +kernel⟩
variable {P : Program} {w : World} {K : PySem.W.Frag} {mg : Str → Option Value} {base : Heap} {f aCoinError aBadNumber aNoSystem aBadCoins aTooMany aSystem : Addr} {fd : FuncData}
def sameB (a b : Int) (m : Nat) : Bool := (rangeI 1 (m - 1)).all fun n => ruleB a m 1 n == ruleB b m 1 n
def A_same_rule (aN aT : Addr) (ds : List D) (r : Res) : Prop := ∃ d1 d2 d3 : D, ds = [d1, d2, d3] ∧ plD d1 = true ∧ plD d2 = true ∧ plD d3 = true ∧ ((ruleQ d1 d3 (.int 1) && ruleQ d2 d3 (.int 1)) = false ∧ r = .error ⟨aN, []⟩ ∨ (ruleQ d1 d3 (.int 1) && ruleQ d2 d3 (.int 1)) = true ∧ 6000 < iv d3 ∧ r = .error ⟨aT, [("most", .int 6000)]⟩ ∨ ∃ (a b : Int) (m : Nat), d1 = .int a ∧ d2 = .int b ∧ d3 = .int (m : Nat) ∧ (1 ≤ a ∧ a ≤ c_MOST_SIZE) ∧ (1 ≤ b ∧ b ≤ c_MOST_SIZE) ∧ (2 ≤ m ∧ m ≤ 6000) ∧ r = .ok (.bl (sameB a b m)))
theorem ok_same_rule (T : Blt mg) (E_TooMany : EX1 P w K mg base "TooMany" "most" aTooMany) (F_check_rule : FnV P w K mg base 3 "check_rule" (detS (A_check_rule aBadNumber))) (Fu : Fun K "same_rule" "same_rule" s_same_rule f fd) (hb : Binds K fd ["one", "other", "modulus"] []) (hm : mg "same_rule" = some (.ref f)) : FnV P w K mg base 4 "same_rule" (detS (A_same_rule aBadNumber aTooMany)) := by
  refine fn_pure (k := 3) Fu sc_same_rule hb hm (fun ds r ⟨d, d2, d3, e, _⟩ => by subst e; rfl) fun cdv A' outer s H E hr B ds r ⟨d1, d2, d3, e, hp1, hp2, hp3, h⟩ => ?_
  subst e
  have TM := E_TooMany (cx P w K mg base N_same_rule "same_rule" s_same_rule f cdv A' outer s H E) rfl rfl rfl rfl rfl
  rcases h with ⟨hq, er⟩ | ⟨hq, hbig, er⟩ | ⟨a, b, m, e1, e2, e3, ha, hb1, hm1, er⟩
  · subst er
    cases h1 : ruleQ d1 d3 (.int 1) with
    | false => exact css_exprR (q_callD F_check_rule (hr.mono (by decide)) (d_cons (c_var 0) (d_cons (c_var 2) (d_cons c_int d_nil))) ⟨_, _, _, rfl, hp1, hp3, rfl, (okR_f h1).symm⟩) (fun _ h => by cases h) (fun er h => by cases h; rfl)
    | true =>
      rw [h1, Bool.true_and] at hq
      refine css_exprR (q_callD F_check_rule (hr.mono (by decide)) (d_cons (c_var 0) (d_cons (c_var 2) (d_cons c_int d_nil))) ⟨_, _, _, rfl, hp1, hp3, rfl, (okR_t h1).symm⟩) (fun _ _ => ?_) (fun er h => by cases h)
      exact css_exprR (q_callD F_check_rule (hr.mono (by decide)) (d_cons (c_var 1) (d_cons (c_var 2) (d_cons c_int d_nil))) ⟨_, _, _, rfl, hp2, hp3, rfl, (okR_f hq).symm⟩) (fun _ h => by cases h) (fun er h => by cases h; rfl)
  · subst er
    obtain ⟨h1, h2⟩ := Bool.and_eq_true_iff.mp hq
    refine css_exprR (q_callD F_check_rule (hr.mono (by decide)) (d_cons (c_var 0) (d_cons (c_var 2) (d_cons c_int d_nil))) ⟨_, _, _, rfl, hp1, hp3, rfl, (okR_t h1).symm⟩) (fun _ _ => ?_) (fun er h => by cases h)
    refine css_exprR (q_callD F_check_rule (hr.mono (by decide)) (d_cons (c_var 1) (d_cons (c_var 2) (d_cons c_int d_nil))) ⟨_, _, _, rfl, hp2, hp3, rfl, (okR_t h2).symm⟩) (fun _ _ => ?_) (fun er h => by cases h)
    obtain ⟨_, m1, _, rfl, rfl, _, _, _, _⟩ := ruleQ_iv h1
    refine css_if (k := true) (CT.eq (t_gt (i := m1) (j := 6000) (c_var 2) (CE.eq (c_mul (c_gint T.MOST_MODULUS) c_int (.inl ⟨by decide, by decide⟩)) rfl)) (decide_eq_true hbig)) (fun _ => ?_) (fun h => Bool.noConfusion h)
    exact css_raise1 B TM (hr.mono (by decide)) (CE.eq (c_mul (c_gint T.MOST_MODULUS) c_int (.inl ⟨by decide, by decide⟩)) rfl) rfl
  · subst e1 e2 e3 er
    have h1 := ruleQ_of ha (show 2 ≤ (m : Int) ∧ (m : Int) ≤ c_MOST_SIZE from ⟨by omega, ms_le (by omega)⟩) (show (1 : Int) ≤ 1 ∧ (1 : Int) ≤ c_MOST_SIZE from ⟨by decide, ms_le (by decide)⟩)
    have h2 := ruleQ_of hb1 (show 2 ≤ (m : Int) ∧ (m : Int) ≤ c_MOST_SIZE from ⟨by omega, ms_le (by omega)⟩) (show (1 : Int) ≤ 1 ∧ (1 : Int) ≤ c_MOST_SIZE from ⟨by decide, ms_le (by decide)⟩)
    refine css_exprR (q_callD F_check_rule (hr.mono (by decide)) (d_cons (c_var 0) (d_cons (c_var 2) (d_cons c_int d_nil))) ⟨_, _, _, rfl, hp1, hp3, rfl, (okR_t h1).symm⟩) (fun _ _ => ?_) (fun er h => by cases h)
    refine css_exprR (q_callD F_check_rule (hr.mono (by decide)) (d_cons (c_var 1) (d_cons (c_var 2) (d_cons c_int d_nil))) ⟨_, _, _, rfl, hp2, hp3, rfl, (okR_t h2).symm⟩) (fun _ _ => ?_) (fun er h => by cases h)
    refine css_if (k := false) (CT.eq (t_gt (i := (m : Int)) (j := 6000) (c_var 2) (CE.eq (c_mul (c_gint T.MOST_MODULUS) c_int (.inl ⟨by decide, by decide⟩)) rfl)) (decide_eq_false (by omega))) (fun h => Bool.noConfusion h) (fun _ => css_nil ?_)
    refine css_for (T := .nm 3) B (ci_range2 T.range c_int (c_var 2) ⟨by decide, by decide, by omega, by omega⟩) (tg_nm 3 B.nd) (fun i ρ => (∀ n : Int, 1 ≤ n → n < 1 + (i : Int) → ruleB a m 1 n = ruleB b m 1 n) ∧ ∃ x : Sl, ρ = [.dat (.int a), .dat (.int b), .dat (.int (m : Nat)), x]) ⟨fun n h1 h2 => by omega, _, rfl⟩ (fun i d ρ hd hJ => ?_) (fun ρ hJ => ?_)
    · obtain ⟨hi, rfl⟩ := rangeD_inv hd
      obtain ⟨hall, x, rfl⟩ := hJ
      refine ⟨_, .nm, ?_⟩
      have rb : ∀ z n : Int, decide (z * n % (m : Int) ≤ n) = ruleB z m 1 n := fun z n => by unfold ruleB; rw [Int.one_mul]
      refine css_if (k := !decide (ruleB a m 1 (1 + (i : Nat)) = ruleB b m 1 (1 + (i : Nat)))) (CT.eq (t_neB (i := ruleB a m 1 (1 + (i : Nat))) (j := ruleB b m 1 (1 + (i : Nat))) (CE.eq (c_le (c_mod (c_mul (c_var 0) (c_var 3) (.inr ⟨by omega, by omega⟩)) (c_var 2) (by omega)) (c_var 3)) (congrArg D.bl (rb _ _))) (CE.eq (c_le (c_mod (c_mul (c_var 1) (c_var 3) (.inr ⟨by omega, by omega⟩)) (c_var 2) (by omega)) (c_var 3)) (congrArg D.bl (rb _ _)))) rfl) (fun h => ?_) (fun h => css_nil (css_nil ⟨fun n n1 n2 => ?_, _, rfl⟩))
      · rw [Bool.not_eq_true', decide_eq_false_iff_not] at h
        refine css_ret c_bl ?_
        have : sameB a b m = false := List.all_eq_false.mpr ⟨1 + (i : Nat), rangeI_mem.mpr ⟨by omega, by omega⟩, by simpa using h⟩
        rw [this]
      · rw [Bool.not_eq_false', decide_eq_true_eq] at h
        by_cases e : n = 1 + (i : Nat)
        · rw [e]; exact h
        · exact hall n n1 (by omega)
    · obtain ⟨hall, x, rfl⟩ := hJ
      rw [rangeD_len] at hall
      refine css_ret c_bl ?_
      have : sameB a b m = true := List.all_eq_true.mpr fun n hn => by
        have := rangeI_mem.mp hn
        rw [hall n (by omega) (by omega)]
        simp
      rw [this]
end KK
end

section
set_option Elab.async false
set_option linter.all false
set_option maxRecDepth 100000
set_option maxHeartbeats 4000000
namespace KK
open PySem PySem.Spec PyProof.Rows L2 VL
abbrev s_twin_factor : Stmt := topS 39
abbrev N_twin_factor : List Str := ["factor", "modulus"]
theorem sc_twin_factor : FnScope N_twin_factor ["factor", "modulus"] (defScope s_twin_factor) := ⟨rfl, rfl, rfl, by decide +kernel, rfl, by decide +kernel, by decide +kernel⟩
variable {P : Program} {w : World} {K : PySem.W.Frag} {mg : Str → Option Value} {base : Heap} {f aCoinError aBadNumber aNoSystem aBadCoins aTooMany aSystem : Addr} {fd : FuncData}
def A_twin_factor (aN : Addr) (ds : List D) (r : Res) : Prop := ∃ d1 d2 : D, ds = [d1, d2] ∧ plD d1 = true ∧ plD d2 = true ∧ r = okR (ruleQ d1 d2 (.int 1)) (.ok (.int (twinI (iv d1) (iv d2)))) aN
theorem ok_twin_factor (T : Blt mg) (F_check_rule : FnV P w K mg base 3 "check_rule" (detS (A_check_rule aBadNumber))) (Fu : Fun K "twin_factor" "twin_factor" s_twin_factor f fd) (hb : Binds K fd ["factor", "modulus"] []) (hm : mg "twin_factor" = some (.ref f)) : FnV P w K mg base 4 "twin_factor" (detS (A_twin_factor aBadNumber)) := by
  refine fn_pure (k := 3) Fu sc_twin_factor hb hm (fun ds r ⟨d, d2, e, _⟩ => by subst e; rfl) fun cdv A' outer s H E hr B ds r ⟨d1, d2, e, hp1, hp2, er⟩ => ?_
  subst e er
  refine css_exprR (r := okR (ruleQ d1 d2 (.int 1)) (.ok .non) aBadNumber) (q_callD F_check_rule (hr.mono (by decide)) (d_cons (c_var 0) (d_cons (c_var 1) (d_cons c_int d_nil))) ⟨_, _, _, rfl, hp1, hp2, rfl, rfl⟩) (fun x hx => ?_) (fun er hx => ?_)
  · have hq : ruleQ d1 d2 (.int 1) = true := by cases q : ruleQ d1 d2 (.int 1) <;> first | rfl | (rw [okR_f q] at hx; cases hx)
    rw [okR_t hq]
    obtain ⟨f1, m1, s1, rfl, rfl, _, hf, hm1, _⟩ := ruleQ_iv hq
    exact css_ret (d := .int (twinI f1 m1)) (c_mod (c_sub (c_add (c_var 1) c_int) (c_var 0)) (c_var 1) (by omega)) rfl
  · have hq : ruleQ d1 d2 (.int 1) = false := by cases q : ruleQ d1 d2 (.int 1) <;> first | rfl | (rw [okR_t q] at hx; cases hx)
    rw [okR_f hq] at hx
    cases hx
    exact okR_f hq
end KK
end

section
set_option Elab.async false
set_option linter.all false
set_option maxRecDepth 100000
set_option maxHeartbeats 4000000
namespace KK
open PySem PySem.Spec PyProof.Rows L2 VL
abbrev s_System_eq : Stmt := match topS 18 with
  | .ClassDef _ _ _ b .. => b.getD 1 (.Pass ⟨0, 0, 0, 0⟩)
  | s => s
abbrev N_System_eq : List Str := ["self", "other"]
theorem sc_System_eq : FnScope N_System_eq ["self", "other"] (defScope s_System_eq) := ⟨rfl, rfl, rfl, by decide +kernel, rfl, by decide +kernel, by decide +kernel⟩
variable {P : Program} {w : World} {K : PySem.W.Frag} {mg : Str → Option Value} {base : Heap} {f aCoinError aBadNumber aNoSystem aBadCoins aTooMany aSystem : Addr} {fd : FuncData}
def A_System_eq (C : Addr) (ds : List D) (r : Res) : Prop := ∃ cs ds' : List Int, ds = [sysD C cs, sysD C ds'] ∧ okC cs = true ∧ okC ds' = true ∧ r = .ok (.bl (decide (nd cs = nd ds')))
theorem ok_System_eq (T : Blt mg) (S_System : SysC K mg aSystem) (Fu : Fun K "__eq__" "System.__eq__" s_System_eq f fd) : VL.FnOk P w K mg base (L2N.CX P w) 1 f fd ["self", "other"] (spV K (detS (A_System_eq aSystem))) := by
  refine fn_meth (k := 0) Fu sc_System_eq (fun ds r ⟨cs, ds', e, _⟩ => by subst e; rfl) fun cdv A' outer s H E hr B ds r ⟨cs, ds', e, h1, h2, er⟩ => ?_
  subst e er
  obtain ⟨_, _, n1, _, _⟩ := nd_ok h1
  refine css_if (k := false) (CT.eq (t_not (t_val (c_isiY S_System.o T.isinstance (c_var 1) (c_gref S_System.g)))) rfl) (fun h => Bool.noConfusion h) (fun _ => css_nil ?_)
  exact css_ret (c_eqTI (by have := hr.un; omega) (c_fld S_System.o.i.cl S_System.n2 (c_var 0)) (c_fld S_System.o.i.cl S_System.n2 (c_var 1))) rfl
end KK
end

section
set_option Elab.async false
set_option linter.all false
set_option maxRecDepth 100000
set_option maxHeartbeats 4000000
namespace KK
open PySem PySem.Spec PyProof.Rows L2 VL
abbrev s_gap_ways : Stmt := topS 40
abbrev N_gap_ways : List Str := ["system", "modulus", "found", "factor"]
theorem sc_gap_ways : FnScope N_gap_ways ["system", "modulus"] (defScope s_gap_ways) := ⟨rfl, rfl, rfl, by decide +kernel, rfl, by decide +kernel, by decide +kernel⟩
variable {P : Program} {w : World} {K : PySem.W.Frag} {mg : Str → Option Value} {base : Heap} {f aCoinError aBadNumber aNoSystem aBadCoins aTooMany aSystem : Addr} {fd : FuncData}
noncomputable def gapW (cs : List Int) (m : Nat) : List Int := (rangeI 1 (m - 1)).filter fun fa => decide (nd (sgC (ruleB fa m 1) m) = nd cs)
def A_gap_ways (C aN : Addr) (ds : List D) (r : Res) : Prop := ∃ (cs : List Int) (d : D), ds = [sysD C cs, d] ∧ okC cs = true ∧ plD d = true ∧ (within d 2 120 = false ∧ r = .error ⟨aN, []⟩ ∨ ∃ m : Nat, d = .int (m : Nat) ∧ 2 ≤ m ∧ m ≤ 120 ∧ r = .ok (.tup ((gapW cs m).map D.int)))
theorem ok_gap_ways (T : Blt mg) (S_System : SysC K mg aSystem) (E_BadNumber : EX0 P w K mg base "BadNumber" aBadNumber) (Q_System : EqOwn P w K mg base 1 aSystem (A_System_eq aSystem)) (F_is_within : FnV P w K mg base 2 "is_within" (detS A_is_within)) (F_rule_system : FnV P w K mg base 7 "rule_system" (detS (A_rule_system aSystem aBadNumber aTooMany))) (Fu : Fun K "gap_ways" "gap_ways" s_gap_ways f fd) (hb : Binds K fd ["system", "modulus"] []) (hm : mg "gap_ways" = some (.ref f)) : FnV P w K mg base 8 "gap_ways" (detS (A_gap_ways aSystem aBadNumber)) := by
  refine fn_pure (k := 7) Fu sc_gap_ways hb hm (fun ds r ⟨cs, d, e, _⟩ => by subst e; rfl) fun cdv A' outer s H E hr B ds r ⟨cs, d, e, ho, hp, h⟩ => ?_
  subst e
  have TN := E_BadNumber (cx P w K mg base N_gap_ways "gap_ways" s_gap_ways f cdv A' outer s H E) rfl rfl rfl rfl rfl
  refine css_check (b := within d 2 120) (CT.eq (t_w (w_or (k := false) (CT.eq (t_not (t_val (c_isiY S_System.o T.isinstance (c_var 0) (c_gref S_System.g)))) rfl) (fun _ => w_or1 (t_not (t_val (c_call F_is_within (hr.mono (by decide)) (d_cons (c_var 1) (d_cons c_int (d_cons c_int d_nil))) (fun R h => ⟨_, _, rfl, ⟨_, _, _, rfl, hp, rfl⟩, h⟩))))))) (Bool.false_or _)) B TN (fun hw => ?_) (fun hw => ?_)
  · rcases h with ⟨_, er⟩ | ⟨m, e, m1, m2, _⟩
    · exact er
    · subst e
      rw [within_of (by omega) (by omega)] at hw
      cases hw
  · rcases h with ⟨h, _⟩ | ⟨m, e, m1, m2, er⟩
    · rw [h] at hw; cases hw
    subst e er
    refine css_asgN 2 B (n_lst d_nil (sz (by simp))) (fun q => ?_)
    refine css_for (T := .nm 3) B (ci_range2 T.range c_int (c_var 1) ⟨by decide, by decide, by omega, by omega⟩) (tg_nm 3 B.nd) (fun i ρ => i ≤ m - 1 ∧ ∃ x : Sl, ρ = [.dat (sysD aSystem cs), .dat (.int (m : Nat)), .mut q (((rangeI 1 i).filter fun fa => decide (nd (sgC (ruleB fa m 1) m) = nd cs)).map D.int), x]) ⟨Nat.zero_le _, _, rfl⟩ (fun i d ρ hd hJ => ?_) (fun ρ hJ => ?_)
    · obtain ⟨hi, rfl⟩ := rangeD_inv hd
      obtain ⟨_, x, rfl⟩ := hJ
      refine ⟨_, .nm, ?_⟩
      have hok : okC (sgC (ruleB (1 + (i : Nat)) m 1) m) = true := sg_ok (rule_sg (by omega) (by decide)) (by omega)
      have hl := List.length_filter_le (fun fa => decide (nd (sgC (ruleB fa m 1) m) = nd cs)) (rangeI 1 i)
      rw [rangeI_len] at hl
      have st : (rangeI 1 (i + 1)).filter (fun fa => decide (nd (sgC (ruleB fa m 1) m) = nd cs)) = (rangeI 1 i).filter (fun fa => decide (nd (sgC (ruleB fa m 1) m) = nd cs)) ++ (if decide (nd (sgC (ruleB (1 + (i : Nat)) m 1) m) = nd cs) then [(1 : Int) + (i : Nat)] else []) := by
        rw [rangeI_succ, List.filter_append, List.filter_cons, List.filter_nil]
      refine css_if (t_bor (t_eqY Q_System (hr.mono (by decide)) (c_call F_rule_system (hr.mono (by decide)) (d_cons (c_var 3) (d_cons (c_var 1) (d_cons c_int d_nil))) (fun R h => ⟨_, _, rfl, ⟨_, _, _, rfl, rfl, rfl, rfl, .inr (.inr ⟨1 + (i : Nat), 1, m, rfl, rfl, rfl, ⟨by omega, ms_le (by omega)⟩, ⟨by omega, by omega⟩, ⟨by decide, ms_le (by decide)⟩, rfl⟩)⟩, h⟩)) (c_var 0) ⟨_, _, rfl, hok, ho, rfl⟩)) (fun h => ?_) (fun h => css_nil (css_nil ⟨by omega, _, by rw [st, h, if_neg (by decide), List.append_nil]; rfl⟩))
      refine css_append 2 (c_var 3) rfl rfl (szl (by rw [List.length_map]; omega)) (css_nil (css_nil ⟨by omega, .dat (.int (1 + (i : Nat))), ?_⟩))
      rw [st, h, if_pos rfl, List.map_append]
      rfl
    · obtain ⟨_, x, rfl⟩ := hJ
      rw [rangeD_len]
      refine css_freeze (i := 2) rfl (css_ret (c_tupL T.tuple (c_var 2)) ?_)
      rw [show ((m : Int) - 1).toNat = m - 1 by omega]
      rfl
end KK
end

section
set_option Elab.async false
set_option linter.all false
set_option maxRecDepth 100000
set_option maxHeartbeats 4000000
namespace KK
open PySem PySem.Spec PyProof.Rows L2 VL
abbrev s_law_hand : Stmt := topS 42
abbrev N_law_hand : List Str := ["script", "cells", "cell"]
theorem sc_law_hand : FnScope N_law_hand ["script"] (defScope s_law_hand) := ⟨rfl, rfl, rfl, by decide +kernel, rfl, by decide +kernel, by decide +kernel⟩
variable {P : Program} {w : World} {K : PySem.W.Frag} {mg : Str → Option Value} {base : Heap} {f aCoinError aBadNumber aNoSystem aBadCoins aTooMany aSystem : Addr} {fd : FuncData}
theorem ok_law_hand (T : Blt mg) (Fu : Fun K "_law_hand" "_law_hand" s_law_hand f fd) (hb : Binds K fd ["script"] []) (hm : mg "_law_hand" = some (.ref f)) : FnN P w K mg base 2 "_law_hand" (A_law_hand 77) := by
  refine fn_new2 (k := 1) Fu sc_law_hand hb hm (fun ds r ⟨d, e, _⟩ => by subst e; rfl) rfl fun cdv A' outer s H E hr B ds es ⟨ns, e, hl, er⟩ => ?_
  subst e er
  refine ps_lcF2 1 (l_lc0 (T := .nm 2) (fun x => match x with | .int n => .int (if n < 0 then -n else n) | x => x) (ci_list (CN.ce (n_slF (c_var 0) o_none (o_some c_int)))) [("cell", 2)] B (blkOk_by (N := ["script", "cells", "cell"]) (sc := defScope s_law_hand) (by decide +kernel))
      (fun _ _ _ _ _ => tg_nm 2 B.nd) (by decide) (fun k p ds hk h => by rcases k with _ | _ | _ | k <;> cases h) (fun i d hd => ?_) ?_)
    ((n_lst (d_cons (c_var 1) (d_cons c_int (d_cons c_int (d_cons (c_add c_int (c_mul c_int (c_lenL T.len (c_var 1)) ?_)) (d_cons c_int d_nil))))) (sz (by simp))).eq ?_)
  · rw [show ((63 : Int)) = ((63 : Nat) : Int) from rfl, cutD_take, ← List.map_take] at hd
    obtain ⟨n, _, rfl⟩ := List.mem_map.mp (List.mem_of_getElem? hd)
    refine ⟨_, .nm, (fun k p es h => by rcases k with _ | _ | _ | k <;> cases h), fun _ _ _ _ _ => c_abs T.abs (c_intI T.int (c_var 2))⟩
  · rw [show ((63 : Int)) = ((63 : Nat) : Int) from rfl, cutD_take, List.length_take, List.length_map]
    exact szl (by omega)
  · exact .inl (by decide)
  · rw [show ((63 : Int)) = ((63 : Nat) : Int) from rfl, cutD_take, ← List.map_take, List.map_map]
    unfold Hd.new Hd.ds
    simp only [List.map_map, List.length_map]
    rfl
end KK
end

section
set_option Elab.async false
set_option linter.all false
set_option maxRecDepth 100000
set_option maxHeartbeats 4000000
namespace KK
open PySem PySem.Spec PyProof.Rows L2 VL
abbrev s_law_draw : Stmt := topS 43
abbrev N_law_draw : List Str := ["hand", "below", "cell", "digit", "number"]
theorem sc_law_draw : FnScope N_law_draw ["hand", "below"] (defScope s_law_draw) := ⟨rfl, rfl, rfl, by decide +kernel, rfl, by decide +kernel, by decide +kernel⟩
variable {P : Program} {w : World} {K : PySem.W.Frag} {mg : Str → Option Value} {base : Heap} {f aCoinError aBadNumber aNoSystem aBadCoins aTooMany aSystem : Addr} {fd : FuncData}
theorem ok_law_draw (T : Blt mg) (Fu : Fun K "_law_draw" "_law_draw" s_law_draw f fd) (hb : Binds K fd ["hand", "below"] []) (hm : mg "_law_draw" = some (.ref f)) : FnV P w K mg base 1 "_law_draw" (mutS A_law_draw) := by
  refine fn_mut (k := 0) (fun cs ds R R' h ⟨hd, m, a, b, c, d, r⟩ => ⟨hd, m, a, b, c, d, h _ _ r⟩) Fu sc_law_draw hb hm (fun cs ds R ⟨hd, m, a, b, _⟩ => by subst b; rfl) fun cdv A' outer s H E hr B q cs ds R ⟨h, many, e1, e2, m0, m1, hR⟩ => ?_
  subst e1 e2
  obtain ⟨cells, i, left, seed, cnt⟩ := h
  have fin : ∀ (h' : Hd) (a b c : Sl), h' = (Hd.mk cells i left seed cnt).turn → CSs (cx P w K mg base N_law_draw "_law_draw" s_law_draw f cdv A' outer s H E) [.mut q h'.ds, .dat (.int many), a, b, c] ((defBody s_law_draw).drop 1)
      { nx := fun ρ' => ∃ cs', ρ'[0]? = some (.mut q cs') ∧ R (.ok .non) cs', rt := fun d ρ' => ∃ cs', ρ'[0]? = some (.mut q cs') ∧ R (.ok d) cs', er := fun e ρ' => ∃ cs', ρ'[0]? = some (.mut q cs') ∧ R (.error e) cs' } := fun h' a b c eh => by
    unfold Hd.draw Hd.next at hR
    rw [← eh] at hR
    obtain ⟨cells, i, left, seed, cnt⟩ := h'
    refine css_if (t_bor (t_gt (c_ixL (c_var 0) c_int rfl) c_int)) (fun hc => ?_) (fun hc => ?_)
    · have hc : 0 < left := of_decide_eq_true hc
      refine css_asg 3 B (c_bor rfl (c_mod (c_intI T.int (c_ixL (c_var 0) c_int rfl)) (c_var 1) m0)) ?_
      refine css_setIx (j := 2) 0 B (c_bor rfl (c_divW (c_ixL (c_var 0) c_int rfl) (c_var 1) ⟨m0, ?_⟩)) c_int rfl rfl ?_
      · have h2 : many.natAbs < 2 ^ 100 := by omega
        have := (Nat.log2_lt (by omega : many.natAbs ≠ 0)).mpr h2
        omega
      refine css_ret (c_var 3) ⟨_, rfl, ?_⟩
      simp only [if_pos hc] at hR
      exact hR
    · have hc : ¬ 0 < left := of_decide_eq_false hc
      refine css_nil ?_
      refine css_setIx (j := 4) 0 B (c_bor rfl (c_add (c_ixL (c_var 0) c_int rfl) c_int)) c_int rfl rfl ?_
      refine css_asg 4 B (c_bor rfl (c_mod (c_intI T.int (c_mul (c_intI T.int (c_add (c_ixL (c_var 0) c_int rfl) (c_mul c_int (c_ixL (c_var 0) c_int rfl) (.inl (by decide))))) c_int (.inr (by decide)))) c_int (by decide))) ?_
      refine css_asg 4 B (c_mod (c_intI T.int (c_mul (c_var 4) (c_add (c_div (c_var 4) c_int ⟨by decide, by decide⟩) c_int) (.inl ?_))) c_int (by decide)) ?_
      · have h1 := Int.emod_nonneg ((seed + 7919 * (cnt + 1)) * 48271) (show (2147483647 : Int) ≠ 0 by decide)
        have h2 := Int.emod_lt_of_pos ((seed + 7919 * (cnt + 1)) * 48271) (show (0 : Int) < 2147483647 by decide)
        omega
      refine css_asg 4 B (c_mod (c_intI T.int (c_mul (c_var 4) (c_add (c_div (c_var 4) c_int ⟨by decide, by decide⟩) c_int) (.inl ?_))) c_int (by decide)) ?_
      · generalize (_ * _ : Int) = z
        have h1 := Int.emod_nonneg z (show (2147483647 : Int) ≠ 0 by decide)
        have h2 := Int.emod_lt_of_pos z (show (0 : Int) < 2147483647 by decide)
        omega
      refine css_ret (c_mod (c_intI T.int (c_div (c_var 4) c_int ⟨by decide, by decide⟩)) (c_var 1) m0) ⟨_, rfl, ?_⟩
      simp only [if_neg hc] at hR
      exact hR
  refine css_if (t_w (w_and (t_bor (t_eqI (c_ixL (c_var 0) c_int rfl) c_int)) (fun _ => (w_and1 (t_bor (t_lt (c_ixL (c_var 0) c_int rfl) (c_lenL T.len (c_ixL (c_var 0) c_int rfl)))))))) (fun hc => ?_) (fun hc => ?_)
  · have hc' : left = 0 ∧ i < cells.length := by simpa using hc
    have hg : (cells.map D.int)[i]? = some (.int (cells.getD i 0)) := at_ints (by rw [List.getD_eq_getElem?_getD, List.getElem?_eq_getElem hc'.2]; rfl)
    refine css_asg 2 B (c_bor rfl (c_ixL (c_ixL (c_var 0) c_int rfl) (c_ixL (c_var 0) c_int rfl) (atI_i rfl hg))) ?_
    refine css_setIx (j := 1) 0 B (c_bor rfl (c_add (c_ixL (c_var 0) c_int rfl) c_int)) c_int rfl rfl ?_
    refine css_setIx (j := 3) 0 B (c_bor rfl (c_mod (c_intI T.int (c_add (c_add (c_mul (c_ixL (c_var 0) c_int rfl) c_int (.inr (by decide))) (c_mul (c_var 2) c_int (.inr (by decide)))) c_int)) c_int (by decide))) c_int rfl rfl ?_
    refine css_if (t_ge (c_var 2) (c_pow c_int c_int ⟨by decide, by decide, by decide⟩)) (fun hd => ?_) (fun hd => ?_)
    · have hd : 10 ^ 18 ≤ cells.getD i 0 := of_decide_eq_true hd
      refine css_setIx (j := 2) 0 B (c_var 2) c_int rfl rfl ?_
      refine css_nil (css_nil ?_)
      refine fin ⟨cells, i + 1, cells.getD i 0, _, cnt⟩ _ _ _ ?_
      unfold Hd.turn
      simp only [if_pos hc', if_pos hd]
    · have hd : ¬ 10 ^ 18 ≤ cells.getD i 0 := of_decide_eq_false hd
      refine css_nil (css_nil ?_)
      refine fin ⟨cells, i + 1, left, _, cnt⟩ _ _ _ ?_
      unfold Hd.turn
      simp only [if_pos hc', if_neg hd]
  · have hc' : ¬ (left = 0 ∧ i < cells.length) := by simpa using hc
    refine css_nil ?_
    refine fin ⟨cells, i, left, seed, cnt⟩ _ _ _ ?_
    unfold Hd.turn
    simp only [if_neg hc']
end KK
end

section
set_option Elab.async false
set_option linter.all false
set_option maxRecDepth 100000
set_option maxHeartbeats 4000000
namespace KK
open PySem PySem.Spec PyProof.Rows L2 VL
abbrev s_law_any : Stmt := topS 44
abbrev N_law_any : List Str := ["hand", "some"]
theorem sc_law_any : FnScope N_law_any ["hand", "some"] (defScope s_law_any) := ⟨rfl, rfl, rfl, by decide +kernel, rfl, by decide +kernel, by decide +kernel⟩
variable {P : Program} {w : World} {K : PySem.W.Frag} {mg : Str → Option Value} {base : Heap} {f aCoinError aBadNumber aNoSystem aBadCoins aTooMany aSystem : Addr} {fd : FuncData}
theorem ok_law_any (T : Blt mg) (F_law_draw : FnV P w K mg base 1 "_law_draw" (mutS A_law_draw)) (Fu : Fun K "_law_any" "_law_any" s_law_any f fd) (hb : Binds K fd ["hand", "some"] []) (hm : mg "_law_any" = some (.ref f)) : FnV P w K mg base 2 "_law_any" (mutS A_law_any) := by
  refine fn_mut (k := 1) (fun cs ds R R' h ⟨hd, m, a, b, c, d, r⟩ => ⟨hd, m, a, b, c, d, h _ _ r⟩) Fu sc_law_any hb hm (fun cs ds R ⟨hd, m, a, b, _⟩ => by subst b; rfl) fun cdv A' outer s H E hr B q cs ds R ⟨h, l, e1, e2, m0, m1, hR⟩ => ?_
  subst e1 e2
  have hl : 0 < l.length := List.length_pos_iff.mpr m0
  have lt := Hd.draw_lt (h := h) (many := (l.length : Nat)) (by omega)
  have hg : l[(h.draw (l.length : Nat)).toNat]? = some (l.getD (h.draw (l.length : Nat)).toNat .non) := by
    rw [List.getD_eq_getElem?_getD, List.getElem?_eq_getElem (by omega)]
    rfl
  exact css_ret (c_ixL (c_var 1) (c_callM 0 F_law_draw (hr.mono (by decide)) rfl (d_cons (c_lenL T.len (c_var 1)) d_nil) rfl (fun R h' => ⟨_, _, _, rfl, h, (l.length : Nat), rfl, rfl, by omega, by omega, h'⟩)) (atI_i (by omega) hg)) ⟨_, rfl, hR⟩
end KK
end

section
set_option Elab.async false
set_option linter.all false
set_option maxRecDepth 100000
set_option maxHeartbeats 4000000
namespace KK
open PySem PySem.Spec PyProof.Rows L2 VL
abbrev s_law_great : Stmt := topS 45
abbrev N_law_great : List Str := ["hand", "found", "turn"]
theorem sc_law_great : FnScope N_law_great ["hand"] (defScope s_law_great) := ⟨rfl, rfl, rfl, by decide +kernel, rfl, by decide +kernel, by decide +kernel⟩
variable {P : Program} {w : World} {K : PySem.W.Frag} {mg : Str → Option Value} {base : Heap} {f aCoinError aBadNumber aNoSystem aBadCoins aTooMany aSystem : Addr} {fd : FuncData}
def grV (h : Hd) : Nat → Int × Hd
  | 0 => (0, h)
  | k + 1 => ((grV h k).1 * 1000000000 + (grV h k).2.draw 1000000000, (grV h k).2.next 1000000000)
def greatF (h : Hd) : Int := 2 + (grV h 3).1
def greatH (h : Hd) : Hd := (grV h 3).2
def A_law_great (cs ds : List D) (R : Res → List D → Prop) : Prop := ∃ h : Hd, cs = h.ds ∧ ds = [] ∧ R (.ok (.int (greatF h))) (greatH h).ds
theorem great_in (h : Hd) : 2 ≤ greatF h ∧ greatF h ≤ 10 ^ 27 + 1 := by
  have d1 := Hd.draw_lt (h := (grV h 0).2) (many := 1000000000) (by decide)
  have d2 := Hd.draw_lt (h := (grV h 1).2) (many := 1000000000) (by decide)
  have d3 := Hd.draw_lt (h := (grV h 2).2) (many := 1000000000) (by decide)
  have e0 : (grV h 0).1 = 0 := rfl
  have e1 : (grV h 1).1 = (grV h 0).1 * 1000000000 + (grV h 0).2.draw 1000000000 := rfl
  have e2 : (grV h 2).1 = (grV h 1).1 * 1000000000 + (grV h 1).2.draw 1000000000 := rfl
  have e3 : (grV h 3).1 = (grV h 2).1 * 1000000000 + (grV h 2).2.draw 1000000000 := rfl
  unfold greatF
  omega
theorem ok_law_great (T : Blt mg) (F_law_draw : FnV P w K mg base 1 "_law_draw" (mutS A_law_draw)) (Fu : Fun K "_law_great" "_law_great" s_law_great f fd) (hb : Binds K fd ["hand"] []) (hm : mg "_law_great" = some (.ref f)) : FnV P w K mg base 2 "_law_great" (mutS A_law_great) := by
  refine fn_mut (k := 1) (fun cs ds R R' h ⟨hd, a, b, r⟩ => ⟨hd, a, b, h _ _ r⟩) Fu sc_law_great hb hm (fun cs ds R ⟨hd, a, b, _⟩ => by subst b; rfl) fun cdv A' outer s H E hr B q cs ds R ⟨h, e1, e2, hR⟩ => ?_
  subst e1 e2
  have p9 : ∀ (X : Cx) (ρ : Lo) (p p1 p2 : Pos) (j1 j2 : _), CE X ρ (.BinOp (.Constant (.int 10) j1 p1) .Pow (.Constant (.int 9) j2 p2) p) (.int 1000000000) ρ := fun X ρ p p1 p2 j1 j2 => CE.eq (c_pow c_int c_int ⟨by decide, by decide, by decide⟩) (congrArg D.int (by decide +kernel))
  refine css_asg 1 B c_int ?_
  show CSs _ [.mut q h.ds, .dat (.int 0), .un] _ _
  refine css_for (T := .nm 2) B (ci_range1 T.range c_int (by decide)) (tg_nm 2 B.nd) (fun i ρ => ∃ a : Sl, ρ = [.mut q (grV h i).2.ds, .dat (.int (grV h i).1), a]) ⟨_, rfl⟩ (fun i d ρ hd hJ => ?_) (fun ρ hJ => ?_)
  · obtain ⟨_, rfl⟩ := rangeD_inv hd
    obtain ⟨a, rfl⟩ := hJ
    refine ⟨_, .nm, ?_⟩
    exact css_asg 1 B (c_add (c_mul (c_var 1) (p9 _ _ _ _ _ _ _) (.inr ⟨by decide, by decide⟩)) (c_callM 0 F_law_draw (hr.mono (by decide)) rfl (d_cons (p9 _ _ _ _ _ _ _) d_nil) rfl (fun R h' => ⟨_, _, _, rfl, (grV h i).2, 1000000000, rfl, rfl, by decide, by decide, h'⟩))) (css_nil ⟨_, rfl⟩)
  · obtain ⟨a, rfl⟩ := hJ
    rw [rangeD_len]
    exact css_ret (c_add c_int (c_var 1)) ⟨_, rfl, hR⟩
end KK
end

section
set_option Elab.async false
set_option linter.all false
set_option maxRecDepth 100000
set_option maxHeartbeats 4000000
namespace KK
open PySem PySem.Spec PyProof.Rows L2 VL
abbrev s_law_keeps : Stmt := topS 46
abbrev N_law_keeps : List Str := ["factor", "modulus", "share", "number"]
theorem sc_law_keeps : FnScope N_law_keeps ["factor", "modulus", "share", "number"] (defScope s_law_keeps) := ⟨rfl, rfl, rfl, by decide +kernel, rfl, by decide +kernel, by decide +kernel⟩
variable {P : Program} {w : World} {K : PySem.W.Frag} {mg : Str → Option Value} {base : Heap} {f aCoinError aBadNumber aNoSystem aBadCoins aTooMany aSystem : Addr} {fd : FuncData}
def A_law_keeps (ds : List D) (r : Res) : Prop := ∃ fa m s n : Int, ds = [.int fa, .int m, .int s, .int n] ∧ 0 < m ∧ Lt2 300 fa ∧ Lt2 300 s ∧ Lt2 300 n ∧ r = .ok (.bl (ruleB fa m s n))
theorem ok_law_keeps (T : Blt mg) (Fu : Fun K "_law_keeps" "_law_keeps" s_law_keeps f fd) (hb : Binds K fd ["factor", "modulus", "share", "number"] []) (hm : mg "_law_keeps" = some (.ref f)) : FnV P w K mg base 1 "_law_keeps" (detS A_law_keeps) := by
  refine fn_pure (k := 0) Fu sc_law_keeps hb hm (fun ds r ⟨_, _, _, _, e, _⟩ => by subst e; rfl) fun cdv A' outer s H E hr B ds r ⟨fa, m, sh, n, e, hm0, h1, h2, h3, er⟩ => ?_
  subst e er
  exact css_ret (c_le (c_mod (c_intI T.int (c_mulW (c_var 0) (c_var 3) (mulS h1 h3))) (c_var 1) hm0) (c_mulW (c_var 2) (c_var 3) (mulS h2 h3))) rfl
end KK
end

section
set_option Elab.async false
set_option linter.all false
set_option maxRecDepth 100000
set_option maxHeartbeats 4000000
namespace KK
open PySem PySem.Spec PyProof.Rows L2 VL
abbrev s_law_common : Stmt := topS 47
abbrev N_law_common : List Str := ["one", "other"]
theorem sc_law_common : FnScope N_law_common ["one", "other"] (defScope s_law_common) := ⟨rfl, rfl, rfl, by decide +kernel, rfl, by decide +kernel, by decide +kernel⟩
variable {P : Program} {w : World} {K : PySem.W.Frag} {mg : Str → Option Value} {base : Heap} {f aCoinError aBadNumber aNoSystem aBadCoins aTooMany aSystem : Addr} {fd : FuncData}
def A_law_common (ds : List D) (r : Res) : Prop := ∃ a b : Int, ds = [.int a, .int b] ∧ 0 ≤ a ∧ 0 ≤ b ∧ r = .ok (.int (Int.gcd a b))
theorem ok_law_common (T : Blt mg) (Fu : Fun K "_law_common" "_law_common" s_law_common f fd) (hb : Binds K fd ["one", "other"] []) (hm : mg "_law_common" = some (.ref f)) : FnV P w K mg base 1 "_law_common" (detS A_law_common) := by
  refine fn_pure (k := 0) Fu sc_law_common hb hm (fun ds r ⟨a, b, e, _⟩ => by subst e; rfl) fun cdv A' outer s H E hr B ds r ⟨a, b, e, ha, hb0, er⟩ => ?_
  subst e er
  refine css_while B (fun m ρ => ∃ x y : Int, 0 ≤ x ∧ 0 ≤ y ∧ y.toNat = m ∧ Int.gcd x y = Int.gcd a b ∧ ρ = [.dat (.int x), .dat (.int y)]) b.toNat ⟨_, _, ha, hb0, rfl, rfl, rfl⟩ fun m ρ ⟨x, y, hx, hy, em, hg, e⟩ => ?_
  subst e
  refine ⟨_, _, t_gt (c_var 1) c_int, fun h => ?_, fun h => ?_⟩
  · have h : 0 < y := of_decide_eq_true h
    refine css_par 0 1 B (d_cons (c_var 1) (d_cons (c_mod (c_intI T.int (c_var 0)) (c_var 1) h) d_nil)) (css_nil ?_)
    have h1 := Int.emod_nonneg x (show y ≠ 0 by omega)
    have h2 := Int.emod_lt_of_pos x h
    exact ⟨(x % y).toNat, by omega, y, x % y, hy, h1, rfl, by rw [← hg]; exact gcd_mod hx hy, rfl⟩
  · have h : ¬ 0 < y := of_decide_eq_false h
    have : y = 0 := by omega
    subst this
    refine css_ret (c_var 0) ?_
    rw [← hg, Int.gcd_zero_right]
    show Except.ok (D.int _) = Except.ok (D.int _)
    congr 2
    omega
end KK
end

section
set_option Elab.async false
set_option linter.all false
set_option maxRecDepth 100000
set_option maxHeartbeats 4000000
namespace KK
open PySem PySem.Spec PyProof.Rows L2 VL
abbrev s_law_needed : Stmt := topS 48
abbrev N_law_needed : List Str := ["kept", "bound", "found", "number", "part"]
theorem sc_law_needed : FnScope N_law_needed ["kept", "bound"] (defScope s_law_needed) := ⟨rfl, rfl, rfl, by decide +kernel, rfl, by decide +kernel, by decide +kernel⟩
variable {P : Program} {w : World} {K : PySem.W.Frag} {mg : Str → Option Value} {base : Heap} {f aCoinError aBadNumber aNoSystem aBadCoins aTooMany aSystem : Addr} {fd : FuncData}
def A_law_needed (ds : List D) (r : Res) : Prop := ∃ (Q : Int → Bool) (b : Nat), ds = [.lst (((List.range b).map fun k => Q (k : Nat)).map D.bl), .int (b : Nat)] ∧ 1 ≤ b ∧ b ≤ 1000 ∧ r = .ok (.lst (((rangeI 1 (b - 1)).filter (irrB Q)).map D.int))
theorem ok_law_needed (T : Blt mg) (Fu : Fun K "_law_needed" "_law_needed" s_law_needed f fd) (hb : Binds K fd ["kept", "bound"] []) (hm : mg "_law_needed" = some (.ref f)) : FnV P w K mg base 1 "_law_needed" (detS A_law_needed) := by
  refine fn_pure (k := 0) Fu sc_law_needed hb hm (fun ds r ⟨_, _, e, _⟩ => by subst e; rfl) fun cdv A' outer s H E hr B ds r ⟨Q, b, e, b1, b2, er⟩ => ?_
  subst e er
  have hat : ∀ n : Int, 0 ≤ n → n < b → atI (((List.range b).map fun k => Q (k : Nat)).map D.bl) n = some (.bl (Q n)) := fun n h0 h1 => by
    obtain ⟨k, rfl⟩ := nat_of h0
    refine atI_i rfl ?_
    rw [List.getElem?_map, List.getElem?_map, List.getElem?_range (by omega)]
    rfl
  generalize ((List.range b).map fun k => Q (k : Nat)).map D.bl = kp at hat ⊢
  refine css_asgN 2 B (n_lst d_nil (sz (by simp))) (fun q => ?_)
  show CSs _ [.dat (.lst kp), .dat (.int (b : Nat)), .mut q [], .un, .un] _ _
  refine css_for (T := .nm 3) B (ci_range2 T.range c_int (c_var 1) ⟨by decide, by decide, by omega, by omega⟩) (tg_nm 3 B.nd) (fun i ρ => i ≤ b ∧ ∃ x y : Sl, nmS y = true ∧ ρ = [.dat (.lst kp), .dat (.int (b : Nat)), .mut q (((rangeI 1 i).filter (irrB Q)).map D.int), x, y]) ⟨Nat.zero_le _, _, _, rfl, rfl⟩ (fun i d ρ hd hJ => ?_) (fun ρ hJ => ?_)
  · obtain ⟨hi, rfl⟩ := rangeD_inv hd
    obtain ⟨_, x, y, hy, rfl⟩ := hJ
    refine ⟨_, .nm, ?_⟩
    have hl := List.length_filter_le (irrB Q) (rangeI 1 i)
    rw [rangeI_len] at hl
    have st : (rangeI 1 (i + 1)).filter (irrB Q) = (rangeI 1 i).filter (irrB Q) ++ (if irrB Q (1 + (i : Nat)) then [(1 : Int) + (i : Nat)] else []) := by
      rw [rangeI_succ, List.filter_append, List.filter_cons, List.filter_nil]
    show CSs _ [.dat (.lst kp), .dat (.int (b : Nat)), .mut q (((rangeI 1 i).filter (irrB Q)).map D.int), .dat (.int (1 + (i : Nat))), y] _ _
    have eN : ((1 : Int) + (i : Nat) - 1).toNat = i := by omega
    refine css_if (k := irrB Q (1 + (i : Nat))) (CT.eq (t_bor (t_w (w_and (t_val (c_ixL (c_var 0) (c_var 3) (hat _ (by omega) (by omega)))) (fun _ => w_and1 (t_not (t_val (c_anyL (bs := (rangeI 1 i).map fun p => Q p && Q (1 + (i : Nat) - p)) B.calm T.any (CE.eq (CN.ce (n_lc0 (T := .nm 4) (fun d => match d with | .int p => .bl (Q p && Q (1 + (i : Nat) - p)) | _ => .non) (ci_range2 T.range c_int (c_var 3) ⟨by decide, by decide, by omega, by omega⟩) [("part", 4)] B (blkOk_by (N := N_law_needed) (sc := defScope s_law_needed) (by decide +kernel)) (fun _ _ _ _ _ => tg_nm 4 B.nd) (by decide) (fun k p ds hk h => ?_) (fun j d hd => ?_) (szl (by rw [rangeD_len]; omega)))) ?_)))))))) ?_) (fun h => ?_) (fun h => css_nil (css_nil ⟨by omega, .dat (.int (1 + (i : Nat))), _, hy, by rw [st, h, if_neg (by decide), List.append_nil]⟩))
    · rcases List.mem_singleton.mp hk with rfl
      cases y <;> cases h <;> cases hy
    · obtain ⟨hj, rfl⟩ := rangeD_inv hd
      refine ⟨_, .nm, fun k p es h => ?_, fun _ _ _ _ _ => c_and (c_ixL (c_var 0) (c_var 4) (hat _ (by omega) (by omega))) (fun _ => c_one (c_ixL (c_var 0) (c_sub (c_var 3) (c_var 4)) (hat _ (by omega) (by omega))))⟩
      rcases k with _ | _ | _ | _ | _ | k
      all_goals first | exact h | (cases h; done) | (cases y <;> cases h <;> cases hy)
    · rw [eN, rangeD_eq, List.map_map, List.map_map]
      rfl
    · unfold irrB
      rw [eN, List.any_map]
      rfl
    · refine css_append 2 (c_var 3) rfl rfl (szl (by rw [List.length_map]; omega)) (css_nil (css_nil ⟨by omega, .dat (.int (1 + (i : Nat))), _, hy, ?_⟩))
      rw [st, h, if_pos rfl, List.map_append]
      rfl
  · obtain ⟨_, x, y, _, rfl⟩ := hJ
    rw [rangeD_len, show ((b : Int) - 1).toNat = b - 1 by omega]
    exact css_freeze (i := 2) rfl (css_ret (c_var 2) rfl)
end KK
end

section
set_option Elab.async false
set_option linter.all false
set_option maxRecDepth 100000
set_option maxHeartbeats 4000000
namespace KK
open PySem PySem.Spec PyProof.Rows L2 VL
abbrev s_law_kept : Stmt := topS 49
abbrev N_law_kept : List Str := ["factor", "modulus", "share", "bound", "number"]
theorem sc_law_kept : FnScope N_law_kept ["factor", "modulus", "share", "bound"] (defScope s_law_kept) := ⟨rfl, rfl, rfl, by decide +kernel, rfl, by decide +kernel, by decide +kernel⟩
variable {P : Program} {w : World} {K : PySem.W.Frag} {mg : Str → Option Value} {base : Heap} {f aCoinError aBadNumber aNoSystem aBadCoins aTooMany aSystem : Addr} {fd : FuncData}
def A_law_kept (ds : List D) (r : Res) : Prop := ∃ (fa m s : Int) (b : Nat), ds = [.int fa, .int m, .int s, .int (b : Nat)] ∧ 0 < m ∧ Lt2 300 fa ∧ Lt2 300 s ∧ b ≤ 10000 ∧ r = .ok (.lst ((kL fa m s b).map D.bl))
theorem ok_law_kept (T : Blt mg) (F_law_keeps : FnV P w K mg base 1 "_law_keeps" (detS A_law_keeps)) (Fu : Fun K "_law_kept" "_law_kept" s_law_kept f fd) (hb : Binds K fd ["factor", "modulus", "share", "bound"] []) (hm : mg "_law_kept" = some (.ref f)) : FnV P w K mg base 2 "_law_kept" (detS A_law_kept) := by
  refine fn_pure (k := 1) Fu sc_law_kept hb hm (fun ds r ⟨_, _, _, _, e, _⟩ => by subst e; rfl) fun cdv A' outer s H E hr B ds r ⟨fa, m, sh, b, e, hm0, h1, h2, h3, er⟩ => ?_
  subst e er
  refine css_ret (CE.eq (CN.ce (n_lc0 (T := .nm 4) (fun d => match d with | .int n => .bl (ruleB fa m sh n) | _ => .non) (ci_range1 T.range (c_var 3) ⟨by omega, by omega⟩) [("number", 4)] B (blkOk_by (N := N_law_kept) (sc := defScope s_law_kept) (by decide +kernel)) (fun _ _ _ _ _ => tg_nm 4 B.nd) (by decide) (fun k p ds hk h => by rcases List.mem_singleton.mp hk with rfl; cases h) (fun i d hd => ?_) (szl (by rw [rangeD_len]; omega)))) ?_) rfl
  · obtain ⟨hi, rfl⟩ := rangeD_inv hd
    refine ⟨_, .nm, (fun k p es h => by rcases k with _ | _ | _ | _ | _ | k <;> cases h), fun _ _ _ _ _ => c_call F_law_keeps (hr.mono (by decide)) (d_cons (c_var 0) (d_cons (c_var 1) (d_cons (c_var 2) (d_cons (c_var 4) d_nil)))) (fun R h => ⟨_, _, rfl, ⟨_, _, _, _, rfl, hm0, h1, h2, ?_, rfl⟩, h⟩)⟩
    refine Lt2.mono (b := 64) ?_ (by decide)
    unfold Lt2; omega
  · unfold kL rangeD
    rw [List.map_map, List.map_map, Int.toNat_natCast]
    refine congrArg D.lst (List.map_congr_left fun k _ => ?_)
    show D.bl (ruleB fa m sh (0 + (k : Nat))) = D.bl (ruleB fa m sh (k : Nat))
    rw [Int.zero_add]
end KK
end

section
set_option Elab.async false
set_option linter.all false
set_option maxRecDepth 100000
set_option maxHeartbeats 4000000
namespace KK
open PySem PySem.Spec PyProof.Rows L2 VL
abbrev s_law_by_divisors : Stmt := topS 50
abbrev N_law_by_divisors : List Str := ["factor", "modulus", "rest", "one", "other"]
theorem sc_law_by_divisors : FnScope N_law_by_divisors ["factor", "modulus"] (defScope s_law_by_divisors) := ⟨rfl, rfl, rfl, by decide +kernel, rfl, by decide +kernel, by decide +kernel⟩
variable {P : Program} {w : World} {K : PySem.W.Frag} {mg : Str → Option Value} {base : Heap} {f aCoinError aBadNumber aNoSystem aBadCoins aTooMany aSystem : Addr} {fd : FuncData}
def A_law_by_divisors (ds : List D) (r : Res) : Prop := ∃ fa m : Int, ds = [.int fa, .int m] ∧ 2 ≤ m ∧ r = .ok (.int (gapF2 fa m))
theorem ok_law_by_divisors (T : Blt mg) (F_law_common : FnV P w K mg base 1 "_law_common" (detS A_law_common)) (Fu : Fun K "_law_by_divisors" "_law_by_divisors" s_law_by_divisors f fd) (hb : Binds K fd ["factor", "modulus"] []) (hm : mg "_law_by_divisors" = some (.ref f)) : FnV P w K mg base 2 "_law_by_divisors" (detS A_law_by_divisors) := by
  refine fn_pure (k := 1) Fu sc_law_by_divisors hb hm (fun ds r ⟨_, _, e, _⟩ => by subst e; rfl) fun cdv A' outer s H E hr B ds r ⟨fa, m, e, m2, er⟩ => ?_
  subst e er
  have r0 := Int.emod_nonneg fa (show m ≠ 0 by omega)
  have r1 := Int.emod_nonneg (fa % m - 1) (show m ≠ 0 by omega)
  refine css_asg 2 B (c_mod (c_intI T.int (c_var 0)) (c_var 1) (by omega)) ?_
  refine css_asg 3 B (c_call F_law_common (hr.mono (by decide)) (d_cons (c_var 1) (d_cons (c_var 2) d_nil)) (fun R h => ⟨_, _, rfl, ⟨_, _, rfl, by omega, r0, rfl⟩, h⟩)) ?_
  refine css_asg 4 B (c_call F_law_common (hr.mono (by decide)) (d_cons (c_var 1) (d_cons (c_mod (c_intI T.int (c_sub (c_var 2) c_int)) (c_var 1) (by omega)) d_nil)) (fun R h => ⟨_, _, rfl, ⟨_, _, rfl, by omega, r1, rfl⟩, h⟩)) ?_
  exact css_ret (c_div (c_sub (c_sub (c_add (c_var 1) c_int) (c_var 3)) (c_var 4)) c_int ⟨by decide, by decide⟩) rfl
end KK
end

section
set_option Elab.async false
set_option linter.all false
set_option maxRecDepth 100000
set_option maxHeartbeats 4000000
namespace KK
open PySem PySem.Spec PyProof.Rows L2 VL
abbrev s_law_numbers_right : Stmt := topS 52
abbrev N_law_numbers_right : List Str := ["hand", "factor", "modulus", "share", "numbers", "number", "due", "one"]
theorem sc_law_numbers_right : FnScope N_law_numbers_right ["hand", "factor", "modulus", "share"] (defScope s_law_numbers_right) := ⟨rfl, rfl, rfl, by decide +kernel, rfl, by decide +kernel, by decide +kernel⟩
variable {P : Program} {w : World} {K : PySem.W.Frag} {mg : Str → Option Value} {base : Heap} {f aCoinError aBadNumber aNoSystem aBadCoins aTooMany aSystem : Addr} {fd : FuncData}
/-- what a rule may be here -/
def RuleIn (fa m s : Int) : Prop := (1 ≤ fa ∧ fa ≤ 10 ^ 28) ∧ (2 ≤ m ∧ m ≤ 10 ^ 27 + 1) ∧ (1 ≤ s ∧ s ≤ 10 ^ 28)
theorem RuleIn.q {fa m s : Int} (h : RuleIn fa m s) : ruleQ (.int fa) (.int m) (.int s) = true := by
  obtain ⟨⟨a, b⟩, ⟨c, d⟩, e, f⟩ := h
  exact ruleQ_of ⟨a, ms_le b⟩ ⟨c, ms_le (by omega)⟩ ⟨e, ms_le f⟩
theorem lt3 {x : Int} (h0 : 0 ≤ x) (h : x ≤ 10 ^ 28) : Lt2 300 x := (ms_lt h0 (ms_le h)).mono (by decide)
def A_law_numbers_right (cs ds : List D) (R : Res → List D → Prop) : Prop := ∃ (h : Hd) (fa m s : Int), cs = h.ds ∧ ds = [.int fa, .int m, .int s] ∧ RuleIn fa m s ∧ ∀ h' : Hd, R (.ok (.bl true)) h'.ds
theorem rep2 (a b : Bool) : (eqD (.tup [.bl a, .bl b]) = true ∧ (pyd (.tup [.bl a, .bl b])).showable = true) ∧ (pyd (.tup [.bl a, .bl b])).depth ≤ 64 ∧ (reprD (.tup [.bl a, .bl b])).length ≤ 1000 := by cases a <;> cases b <;> decide +kernel
theorem ok_law_numbers_right (T : Blt mg) (F_law_draw : FnV P w K mg base 1 "_law_draw" (mutS A_law_draw)) (F_rule_holds : FnV P w K mg base 4 "rule_holds" (detS (A_rule_holds aBadNumber))) (F_rule_mirror : FnV P w K mg base 4 "rule_mirror" (detS (A_rule_mirror aBadNumber))) (F_law_keeps : FnV P w K mg base 1 "_law_keeps" (detS A_law_keeps)) (Fu : Fun K "_law_numbers_right" "_law_numbers_right" s_law_numbers_right f fd) (hb : Binds K fd ["hand", "factor", "modulus", "share"] []) (hm : mg "_law_numbers_right" = some (.ref f)) : FnV P w K mg base 5 "_law_numbers_right" (mutS A_law_numbers_right) := by
  refine fn_mut (k := 4) (fun cs ds R R' h ⟨hd, x, y, z, a, b, c, r⟩ => ⟨hd, x, y, z, a, b, c, fun h' => h _ _ (r h')⟩) Fu sc_law_numbers_right hb hm (fun cs ds R ⟨hd, x, y, z, a, b, _⟩ => by subst b; rfl) fun cdv A' outer s H E hr B q cs ds R ⟨h, fa, m, sh, e1, e2, hin, hR⟩ => ?_
  subst e1 e2
  have hq := hin.q
  have hq1 : ruleQ (.int fa) (.int m) (.int 1) = true := (show RuleIn fa m 1 from ⟨hin.1, hin.2.1, by decide, by decide⟩).q
  obtain ⟨⟨a1, a2⟩, ⟨b1, b2⟩, c1, c2⟩ := hin
  have hun : (cx P w K mg base N_law_numbers_right "_law_numbers_right" s_law_numbers_right f cdv A' outer s H E).A.units + 70 < cLine := by have := hr.un; omega
  have d1 := Hd.draw_lt (h := h) (many := m + 1) (by omega)
  have d2 := Hd.draw_lt (h := h.next (m + 1)) (many := 1000000000) (by decide)
  show CSs _ [.mut q h.ds, .dat (.int fa), .dat (.int m), .dat (.int sh), .un, .un, .un, .un] _ _
  refine css_asg 4 B (d := .lst (([0, m, h.draw (m + 1), (h.next (m + 1)).draw 1000000000] : List Int).map D.int)) (CN.ce (n_lst (d_cons c_int (d_cons (c_var 2) (d_cons (c_callM 0 F_law_draw (hr.mono (by decide)) rfl (d_cons (c_add (c_var 2) c_int) d_nil) rfl (fun R h' => ⟨_, _, _, rfl, h, m + 1, rfl, rfl, by omega, by omega, h'⟩)) (d_cons (c_callM 0 F_law_draw (hr.mono (by decide)) rfl (d_cons (CE.eq (y := .int 1000000000) (c_pow c_int c_int ⟨by decide, by decide, by decide⟩) (congrArg D.int (by decide +kernel))) d_nil) rfl (fun R h' => ⟨_, _, _, rfl, h.next (m + 1), 1000000000, rfl, rfl, by decide, by decide, h'⟩)) d_nil)))) (sz (by simp)))) ?_
  generalize (h.next (m + 1)).next 1000000000 = h1
  generalize (h.next (m + 1)).draw 1000000000 = y at *
  generalize h.draw (m + 1) = x at *
  show CSs _ [.mut q h1.ds, .dat (.int fa), .dat (.int m), .dat (.int sh), .dat (.lst (([0, m, x, y] : List Int).map D.int)), .un, .un, .un] _ _
  refine css_for (T := .nm 5) B (ci_list (c_var 4)) (tg_nm 5 B.nd) (fun i ρ => ∃ a : Sl, ρ = [.mut q h1.ds, .dat (.int fa), .dat (.int m), .dat (.int sh), .dat (.lst (([0, m, x, y] : List Int).map D.int)), a, .un, .un]) ⟨_, rfl⟩ (fun i d ρ hd hJ => ?_) (fun ρ hJ => ?_)
  · obtain ⟨a, rfl⟩ := hJ
    obtain ⟨n, hn, rfl⟩ := List.mem_map.mp (List.mem_of_getElem? hd)
    have hnb : 0 ≤ n ∧ n ≤ 10 ^ 28 := by
      simp only [List.mem_cons, List.not_mem_nil, or_false] at hn
      omega
    refine ⟨_, .nm, ?_⟩
    have hold : A_rule_holds aBadNumber [.int fa, .int m, .int sh, .int n] (.ok (.bl (ruleB fa m sh n))) := ⟨_, _, _, _, rfl, rfl, rfl, rfl, rfl, (okR_t (by rw [hq, within_of hnb.1 (ms_le hnb.2)]; rfl)).symm⟩
    exact css_if (t_neS1 (c_reprB (k := ruleB fa m sh n) hr.gd hun T.repr (c_call F_rule_holds (hr.mono (by decide)) (d_cons (c_var 1) (d_cons (c_var 2) (d_cons (c_var 3) (d_cons (c_var 5) d_nil)))) (fun R h => ⟨_, _, rfl, hold, h⟩))) (c_reprB hr.gd hun T.repr (c_call F_law_keeps (hr.mono (by decide)) (d_cons (c_var 1) (d_cons (c_var 2) (d_cons (c_var 3) (d_cons (c_var 5) d_nil)))) (fun R h => ⟨_, _, rfl, ⟨_, _, _, _, rfl, by omega, lt3 (by omega) a2, lt3 (by omega) c2, lt3 hnb.1 hnb.2, rfl⟩, h⟩)))) (fun h => Bool.noConfusion h) (fun _ => css_nil (css_nil ⟨_, rfl⟩))
  · obtain ⟨a, rfl⟩ := hJ
    refine css_asg 5 B (d := .int x) (c_ixL (c_var 4) c_int (atI_i (k := 2) rfl rfl)) ?_
    have kp : ∀ n : Int, 0 ≤ n → n ≤ 10 ^ 28 → A_law_keeps [.int fa, .int m, .int 1, .int n] (.ok (.bl (ruleB fa m 1 n))) := fun n h0 h1 => ⟨_, _, _, _, rfl, by omega, lt3 (by omega) a2, lt3 (by decide) (by decide), lt3 h0 h1, rfl⟩
    refine css_lcF 6 (CL.eq (es2 := [.bl (ruleB fa m 1 x), .bl (ruleB fa m 1 (m - x))]) (l_lc0 (T := .nm 7) (fun d => match d with | .int n => .bl (ruleB fa m 1 n) | _ => .non) (ci_tup (ds := ([x, m - x] : List Int).map D.int) (c_tup (d_cons (c_var 5) (d_cons (c_sub (c_var 2) (c_var 5)) d_nil)) (sz (by simp)))) [("one", 7)] B (blkOk_by (N := N_law_numbers_right) (sc := defScope s_law_numbers_right) (by decide +kernel)) (fun _ _ _ _ _ => tg_nm 7 B.nd) (by decide) (fun k p ds hk h => by rcases List.mem_singleton.mp hk with rfl; cases h) (fun i d hd => ?_) (szl (by simp))) rfl) ?_
    · obtain ⟨n, hn, rfl⟩ := List.mem_map.mp (List.mem_of_getElem? hd)
      have hnb : 0 ≤ n ∧ n ≤ 10 ^ 28 := by
        simp only [List.mem_cons, List.not_mem_nil, or_false] at hn
        omega
      exact ⟨_, .nm, (fun k p es h => by rcases k with _ | _ | _ | _ | _ | _ | _ | _ | k <;> first | exact h | cases h), fun _ _ _ _ _ => c_call F_law_keeps (hr.mono (by decide)) (d_cons (c_var 1) (d_cons (c_var 2) (d_cons c_int (d_cons (c_var 7) d_nil)))) (fun R h => ⟨_, _, rfl, kp n hnb.1 hnb.2, h⟩)⟩
    have hmir := rule_mirror1 (f := fa) (m := m) (n := x) (by omega) (by omega) (by omega)
    obtain ⟨⟨t1, t2⟩, t3, t4⟩ := rep2 (ruleB fa m 1 x) (ruleB fa m 1 (m - x))
    have hmr : A_rule_mirror aBadNumber [.int fa, .int m, .int x] (.ok (.tup [.bl (ruleB fa m 1 x), .bl (ruleB fa m 1 (m - x))])) := ⟨_, _, _, rfl, rfl, rfl, rfl, (okR_t (by rw [hq1, show iv (.int m) = m from rfl, within_of (by omega) (by omega)]; rfl)).symm⟩
    generalize ruleB fa m 1 x = u at *
    generalize ruleB fa m 1 (m - x) = v at *
    refine css_ret (d := .bl true) (CE.eq (c_and (k := true) (CE.eq (c_eqS (c_repr (d := .tup [.bl u, .bl v]) hr.gd hun T.repr (c_call F_rule_mirror (hr.mono (by decide)) (d_cons (c_var 1) (d_cons (c_var 2) (d_cons (c_var 5) d_nil))) (fun R h => ⟨_, _, rfl, hmr, h⟩)) t1 t2 t3 (Nat.le_trans t4 (by decide))) (c_repr (d := .tup [.bl u, .bl v]) hr.gd hun T.repr (c_tupL T.tuple (c_var 6)) t1 t2 t3 (Nat.le_trans t4 (by decide)))) (congrArg D.bl (decide_eq_true rfl))) (fun _ => c_one (c_gt (c_countB (bs := [u, v]) (c_var 6) c_bl) c_int))) ?_) ⟨_, rfl, hR h1⟩
    rcases hmir with rfl | rfl
    · cases v <;> rfl
    · cases u <;> rfl
end KK
end

section
set_option Elab.async false
set_option linter.all false
set_option maxRecDepth 100000
set_option maxHeartbeats 4000000
namespace KK
open PySem PySem.Spec PyProof.Rows L2 VL
abbrev s_law_rule_right : Stmt := topS 51
abbrev N_law_rule_right : List Str := ["hand", "factor", "modulus", "share", "system", "bound", "kept", "near", "one", "other", "number"]
theorem sc_law_rule_right : FnScope N_law_rule_right ["hand", "factor", "modulus", "share"] (defScope s_law_rule_right) := ⟨rfl, rfl, rfl, by decide +kernel, rfl, by decide +kernel, by decide +kernel⟩
variable {P : Program} {w : World} {K : PySem.W.Frag} {mg : Str → Option Value} {base : Heap} {f aCoinError aBadNumber aNoSystem aBadCoins aTooMany aSystem : Addr} {fd : FuncData}
def A_law_rule_right (cs ds : List D) (R : Res → List D → Prop) : Prop := ∃ (h : Hd) (fa s : Int) (m : Nat), cs = h.ds ∧ ds = [.int fa, .int (m : Nat), .int s] ∧ (1 ≤ fa ∧ fa ≤ 200) ∧ (2 ≤ m ∧ m ≤ 60) ∧ (1 ≤ s ∧ s ≤ 200) ∧ ∀ h' : Hd, R (.ok (.bl true)) h'.ds
theorem ok_law_rule_right (T : Blt mg) (F_law_any : FnV P w K mg base 2 "_law_any" (mutS A_law_any)) (F_law_kept : FnV P w K mg base 2 "_law_kept" (detS A_law_kept)) (F_law_needed : FnV P w K mg base 1 "_law_needed" (detS A_law_needed)) (F_rule_system : FnV P w K mg base 7 "rule_system" (detS (A_rule_system aSystem aBadNumber aTooMany))) (F_rule_gaps : FnV P w K mg base 4 "rule_gaps" (detS (A_rule_gaps aBadNumber))) (F_least_kept : FnV P w K mg base 4 "least_kept" (detS (A_least_kept aBadNumber aTooMany))) (F_pays : FnV P w K mg base 3 "pays" (detS (A_pays aSystem))) (F_needed : FnV P w K mg base 2 "needed" (detS (A_needed aSystem))) (F_gaps_number : FnV P w K mg base 2 "gaps_number" (detS (A_gaps_number aSystem))) (Fu : Fun K "_law_rule_right" "_law_rule_right" s_law_rule_right f fd) (hb : Binds K fd ["hand", "factor", "modulus", "share"] []) (hm : mg "_law_rule_right" = some (.ref f)) : FnV P w K mg base 8 "_law_rule_right" (mutS A_law_rule_right) := by
  refine fn_mut (k := 7) (fun cs ds R R' h ⟨hd, x, y, z, a, b, c, d, e, r⟩ => ⟨hd, x, y, z, a, b, c, d, e, fun h' => h _ _ (r h')⟩) Fu sc_law_rule_right hb hm (fun cs ds R ⟨hd, x, y, z, a, b, _⟩ => by subst b; rfl) fun cdv A' outer s H E hr B q cs ds R ⟨h, fa, sh, m, e1, e2, hf, hm1, hs, hR⟩ => ?_
  subst e1 e2
  have hun : (cx P w K mg base N_law_rule_right "_law_rule_right" s_law_rule_right f cdv A' outer s H E).A.units + 70 < cLine := by have := hr.un; omega
  have S : Sg (ruleB fa m sh) m := rule_sg (by omega) hs.1
  have hok := sg_ok S (by omega)
  have hpb := fun n (h0 : 0 ≤ n) => sg_paysB S (by omega) (n := n) h0
  have hgn := sg_gaps S (by omega)
  have hnd := sg_needed S (by omega) (b := 2 * m + 3) (by omega)
  obtain ⟨x, hx0, hx1, hxm, hxp, hxmin⟩ := pk_head S
  obtain ⟨nsub, nn1, nn2, _, _⟩ := nd_ok hok
  have rs1 : A_rule_system aSystem aBadNumber aTooMany [.int fa, .int (m : Nat), .int sh] (.ok (sysD aSystem (sgC (ruleB fa m sh) m))) := ⟨_, _, _, rfl, rfl, rfl, rfl, .inr (.inr ⟨fa, sh, m, rfl, rfl, rfl, ⟨hf.1, ms_le (by omega)⟩, ⟨by omega, by omega⟩, ⟨hs.1, ms_le (by omega)⟩, rfl⟩)⟩
  have eb : (2 * (m : Int) + 3) = ((2 * m + 3 : Nat) : Int) := by omega
  show CSs _ [.mut q h.ds, .dat (.int fa), .dat (.int (m : Nat)), .dat (.int sh), .un, .un, .un, .un, .un, .un, .un] _ _
  refine css_tup (T := .tp [.nm 4, .nm 5]) (d := .tup [sysD aSystem (sgC (ruleB fa m sh) m), .int ((2 * m + 3 : Nat) : Int)]) B (c_tup (d_cons (c_call F_rule_system (hr.mono (by decide)) (d_cons (c_var 1) (d_cons (c_var 2) (d_cons (c_var 3) d_nil))) (fun R h => ⟨_, _, rfl, rs1, h⟩)) (d_cons (CE.eq (c_add (c_mul c_int (c_var 2) (.inl ⟨by decide, by decide⟩)) c_int) (congrArg D.int eb)) d_nil)) (sz (by simp))) (tg_tp rfl (tgs_cons (tg_nm 4 B.nd) (tgs_cons (tg_nm 5 B.nd) tgs_nil))) (.tp (.cons .nm (.cons .nm .nil))) ?_
  refine css_asg 6 B (d := .lst ((kL fa m sh (2 * m + 3)).map D.bl)) (c_call F_law_kept (hr.mono (by decide)) (d_cons (c_var 1) (d_cons (c_var 2) (d_cons (c_var 3) (d_cons (c_var 5) d_nil)))) (fun R h => ⟨_, _, rfl, ⟨_, _, _, _, rfl, by omega, lt3 (by omega) (by omega), lt3 (by omega) (by omega), by omega, rfl⟩, h⟩)) ?_
  have htake : cutD ((kL fa m sh (2 * m + 3)).map D.bl) none (some ((m : Nat) : Int)) = (kL fa m sh m).map D.bl := by
    rw [cutD_take, ← List.map_take]
    unfold kL
    rw [← List.map_take, List.take_range, show min m (2 * m + 3) = m by omega]
  have hdrop : cutD ((kL fa m sh (2 * m + 3)).map D.bl) (some ((m : Nat) : Int)) none = ((kL fa m sh (2 * m + 3)).drop m).map D.bl := by rw [cutD_drop, List.map_drop]
  have hall : (((kL fa m sh (2 * m + 3)).drop m)).all id = true := by
    rw [List.all_eq_true]
    intro z hz
    unfold kL at hz
    rw [← List.map_drop] at hz
    obtain ⟨k, hk, rfl⟩ := List.mem_map.mp hz
    obtain ⟨i, hi⟩ := List.getElem?_of_mem hk
    rw [List.getElem?_drop] at hi
    obtain ⟨hi1, hi2⟩ := List.getElem?_eq_some_iff.mp hi
    rw [List.getElem_range] at hi2
    exact S.top _ (by omega)
  have hat : ∀ n : Int, 0 ≤ n → n < ((2 * m + 3 : Nat) : Int) → atI ((kL fa m sh (2 * m + 3)).map D.bl) n = some (.bl (ruleB fa m sh n)) := fun n h0 h1 => by
    obtain ⟨k, rfl⟩ := nat_of h0
    refine atI_i rfl ?_
    unfold kL
    rw [List.getElem?_map, List.getElem?_map, List.getElem?_range (by omega)]
    rfl
  have ln1 : A_law_needed [.lst ((kL fa m sh (2 * m + 3)).map D.bl), .int ((2 * m + 3 : Nat) : Int)] (.ok (.lst ((nd (sgC (ruleB fa m sh) m)).map D.int))) := ⟨ruleB fa m sh, 2 * m + 3, rfl, by omega, by omega, by rw [hnd]⟩
  have lk1 : A_least_kept aBadNumber aTooMany [.int fa, .int (m : Nat), .int sh] (.ok (.int (x : Nat))) := ⟨_, _, _, rfl, rfl, rfl, rfl, .inr (.inr ⟨fa, sh, m, x, rfl, rfl, rfl, ⟨hf.1, ms_le (by omega)⟩, ⟨by omega, by omega⟩, ⟨hs.1, ms_le (by omega)⟩, hx1, hxp, hxmin, rfl⟩)⟩
  have hcnt : ((kL fa m sh m).count false : Int) = gapsN (sgC (ruleB fa m sh) m) := hgn.symm
  have hpkl : (pkL (ruleB fa m sh) m).length ≤ m := by
    have := List.length_filter_le (ruleB fa m sh) (rangeI 1 m)
    rwa [rangeI_len] at this
  have hpkm : ∀ y ∈ pkL (ruleB fa m sh) m, (1 ≤ y ∧ y ≤ (m : Int)) ∧ ruleB fa m sh y = true := fun y hy => by
    obtain ⟨a, b⟩ := List.mem_filter.mp hy
    have := rangeI_mem.mp a
    exact ⟨by omega, b⟩
  have hpky : ∀ n : Int, 0 ≤ n → A_pays aSystem [sysD aSystem (sgC (ruleB fa m sh) m), .int n] (.ok (.bl (ruleB fa m sh n))) := fun n h0 => ⟨_, n, rfl, hok, by rw [hpb n h0]⟩
  generalize hkp : (kL fa m sh (2 * m + 3)).map D.bl = kp at htake hdrop hat ln1 ⊢
  have hkpl : kp.length = 2 * m + 3 := by rw [← hkp, List.length_map]; unfold kL; rw [List.length_map, List.length_range]
  generalize hsg : sgC (ruleB fa m sh) m = sg at *
  show CSs _ [.mut q h.ds, .dat (.int fa), .dat (.int (m : Nat)), .dat (.int sh), .dat (sysD aSystem sg), .dat (.int ((2 * m + 3 : Nat) : Int)), .dat (.lst kp), .un, .un, .un, .un] _ _
  refine css_if (k := false) (CT.eq (t_w (w_or (k := false) (l := false) (CT.eq (t_not (t_val (c_allL (bs := (kL fa m sh (2 * m + 3)).drop m) B.calm T.all (CN.ce (CN.eq (n_slL (c_var 6) (o_some (c_var 2)) o_none) hdrop))))) (by rw [hall]; rfl)) (fun _ => w_or1 (CT.eq (t_neLI (xs := nd sg) (ys := nd sg) (by omega) (CN.ce (n_listT T.list (c_call F_needed (hr.mono (by decide)) (d_cons (c_var 4) d_nil) (fun R h => ⟨_, _, rfl, ⟨_, rfl, rfl⟩, h⟩)))) (c_call F_law_needed (hr.mono (by decide)) (d_cons (c_var 6) (d_cons (c_var 5) d_nil)) (fun R h => ⟨_, _, rfl, ln1, h⟩))) (by rw [decide_eq_true rfl]; rfl))))) rfl) (fun h => Bool.noConfusion h) (fun _ => css_nil ?_)
  refine css_if (k := false) (CT.eq (t_neLB (xs := kL fa m sh m) (ys := kL fa m sh m) (by omega) (CE.eq (CN.ce (n_lc0 (T := .nm 10) (fun d => match d with | .int n => .bl (ruleB fa m sh n) | _ => .non) (ci_range1 T.range (c_var 2) ⟨by omega, by omega⟩) [("number", 10)] B (blkOk_by (N := N_law_rule_right) (sc := defScope s_law_rule_right) (by decide +kernel)) (fun _ _ _ _ _ => tg_nm 10 B.nd) (by decide) (fun k p ds hk h => by rcases List.mem_singleton.mp hk with rfl; cases h) (fun i d hd => ?_) (szl (by rw [rangeD_len]; omega)))) ?_) (CN.ce (CN.eq (n_slL (c_var 6) o_none (o_some (c_var 2))) htake))) (by rw [decide_eq_true rfl]; rfl)) (fun h => Bool.noConfusion h) (fun _ => css_nil ?_)
  · obtain ⟨hi, rfl⟩ := rangeD_inv hd
    exact ⟨_, .nm, (fun k p es h => by rcases k with _ | _ | _ | _ | _ | _ | _ | _ | _ | _ | _ | k <;> first | exact h | cases h), fun _ _ _ _ _ => c_call F_pays (hr.mono (by decide)) (d_cons (c_var 4) (d_cons (c_var 10) d_nil)) (fun R h => ⟨_, _, rfl, hpky _ (by omega), h⟩)⟩
  · unfold kL rangeD
    rw [List.map_map, List.map_map, Int.toNat_natCast]
    refine congrArg D.lst (List.map_congr_left fun k _ => ?_)
    show D.bl (ruleB fa m sh (0 + (k : Nat))) = D.bl (ruleB fa m sh (k : Nat))
    rw [Int.zero_add]
  refine css_lcF 7 (CL.eq (es2 := (pkL (ruleB fa m sh) m).map D.int) (l_lc1 (T := .nm 10) (fun d => d) (fun d => match d with | .int n => ruleB fa m sh n | _ => false) (ci_range2 T.range c_int (c_add (c_var 2) c_int) ⟨by decide, by decide, by omega, by omega⟩) [("number", 10)] B (blkOk_by (N := N_law_rule_right) (sc := defScope s_law_rule_right) (by decide +kernel)) (fun _ _ _ _ _ => tg_nm 10 B.nd) (by decide) (fun k p ds hk h => by rcases List.mem_singleton.mp hk with rfl; cases h) (fun i d hd => ?_) (szl (by rw [rangeD_len]; omega))) ?_) ?_
  · obtain ⟨hi, rfl⟩ := rangeD_inv hd
    exact ⟨_, .nm, (fun k p es h => by rcases k with _ | _ | _ | _ | _ | _ | _ | _ | _ | _ | _ | k <;> first | exact h | cases h), fun _ _ _ _ _ => t_val (c_ixL (c_var 6) (c_var 10) (hat _ (by omega) (by omega))), fun _ _ _ _ _ _ => c_var 10⟩
  · rw [rangeD_eq, show ((m : Int) + 1 - 1).toNat = m by omega, List.map_id', List.filter_map]
    rfl
  generalize pkL (ruleB fa m sh) m = pk at *
  show CSs _ [.mut q h.ds, .dat (.int fa), .dat (.int (m : Nat)), .dat (.int sh), .dat (sysD aSystem sg), .dat (.int ((2 * m + 3 : Nat) : Int)), .dat (.lst kp), .dat (.lst (pk.map D.int)), .un, .un, .un] _ _
  have lgx : ((x : Nat) : Int).natAbs.log2 < 1920 := Nat.lt_of_lt_of_le (lg2 (b := 100) (by decide) (by omega)) (by decide)
  refine css_if (k := false) (t_neS1 (c_reprI (i := (x : Nat)) hr.gd hun T.repr (c_call F_least_kept (hr.mono (by decide)) (d_cons (c_var 1) (d_cons (c_var 2) (d_cons (c_var 3) d_nil))) (fun R h => ⟨_, _, rfl, lk1, h⟩)) lgx) (c_reprI (i := (x : Nat)) hr.gd hun T.repr (c_ixL (c_var 7) c_int (atI_i (k := 0) rfl (at_ints hx0))) lgx)) (fun h => Bool.noConfusion h) (fun _ => css_nil ?_)
  refine css_if (k := false) (CT.eq (t_w (w_and (l := false) (t_eqI (c_var 3) c_int) (fun hk => w_and1 ?_))) (Bool.and_false _)) (fun h => Bool.noConfusion h) (fun _ => css_nil ?_)
  · have hk := of_decide_eq_true hk
    subst hk
    have hg1 := gapF_small (f := fa) (m := m) (by omega) (by omega)
    have rg1 : A_rule_gaps aBadNumber [.int fa, .int (m : Nat)] (.ok (.int ((kL fa m 1 m).count false : Nat))) := ⟨_, _, rfl, rfl, rfl, by rw [okR_t (ruleQ_of ⟨hf.1, ms_le (by omega)⟩ ⟨by omega, ms_le (by omega)⟩ ⟨by decide, ms_le (by decide)⟩), hg1]; rfl⟩
    have hcl : (kL fa m 1 m).count false ≤ m := by
      have := List.count_le_length (a := false) (l := kL fa m 1 m)
      unfold kL at this ⊢
      rwa [List.length_map, List.length_range] at this
    have lgc : (((kL fa m 1 m).count false : Nat) : Int).natAbs.log2 < 1920 := Nat.lt_of_lt_of_le (lg2 (b := 100) (by decide) (by omega)) (by decide)
    exact t_neS1 (c_reprI (i := ((kL fa m 1 m).count false : Nat)) hr.gd hun T.repr (c_call F_rule_gaps (hr.mono (by decide)) (d_cons (c_var 1) (d_cons (c_var 2) d_nil)) (fun R h => ⟨_, _, rfl, rg1, h⟩)) lgc) (c_reprI (i := ((kL fa m 1 m).count false : Nat)) hr.gd hun T.repr (c_countB (bs := kL fa m 1 m) (CN.ce (CN.eq (n_slL (c_var 6) o_none (o_some (c_var 2))) htake)) c_bl) lgc)
  have hpos : 0 < pk.length := (List.getElem?_eq_some_iff.mp hx0).1
  have hpl : (pk.map D.int).length = pk.length := List.length_map _
  have pick : ∀ h : Hd, ∃ y, (pk.map D.int).getD (h.draw ((pk.map D.int).length : Nat)).toNat .non = .int y ∧ y ∈ pk := fun h => by
    have d1 := Hd.draw_lt (h := h) (many := ((pk.map D.int).length : Nat)) (by omega)
    obtain ⟨y, hy⟩ : ∃ y, pk[(h.draw ((pk.map D.int).length : Nat)).toNat]? = some y := ⟨_, List.getElem?_eq_getElem (by omega)⟩
    exact ⟨y, by rw [List.getD_eq_getElem?_getD, List.getElem?_map, hy]; rfl, List.mem_of_getElem? hy⟩
  obtain ⟨u, hu1, hu2⟩ := pick h
  obtain ⟨v, hv1, hv2⟩ := pick (h.next ((pk.map D.int).length : Nat))
  refine css_par 8 9 B (d_cons (CE.eq (c_callM 0 F_law_any (hr.mono (by decide)) rfl (d_cons (c_var 7) d_nil) rfl (fun R h' => ⟨_, _, _, rfl, h, _, rfl, rfl, (fun e => by rw [e] at hpl; simp at hpl; omega), by omega, h'⟩)) hu1) (d_cons (CE.eq (c_callM 0 F_law_any (hr.mono (by decide)) rfl (d_cons (c_var 7) d_nil) rfl (fun R h' => ⟨_, _, _, rfl, h.next ((pk.map D.int).length : Nat), _, rfl, rfl, (fun e => by rw [e] at hpl; simp at hpl; omega), by omega, h'⟩)) hv1) d_nil)) ?_
  generalize (h.next ((pk.map D.int).length : Nat)).next ((pk.map D.int).length : Nat) = h1
  obtain ⟨⟨u1, u2⟩, u3⟩ := hpkm u hu2
  obtain ⟨⟨v1, v2⟩, v3⟩ := hpkm v hv2
  have huv := S.add u v (by omega) (by omega) u3 v3
  refine css_ret (CE.eq (c_and (k := true) (CE.eq (c_ixL (c_var 6) (c_add (c_var 8) (c_var 9)) (hat _ (by omega) (by omega))) (congrArg D.bl huv)) (fun _ => c_one (CE.eq (c_eqI (i := gapsN sg) (j := gapsN sg) (c_call F_gaps_number (hr.mono (by decide)) (d_cons (c_var 4) d_nil) (fun R h => ⟨_, _, rfl, ⟨_, rfl, hok, rfl⟩, h⟩)) (CE.eq (c_countB (bs := kL fa m sh m) (CN.ce (CN.eq (n_slL (c_var 6) o_none (o_some (c_var 2))) htake)) c_bl) (congrArg D.int hcnt))) (congrArg D.bl (decide_eq_true rfl))))) rfl) ⟨_, rfl, hR h1⟩
end KK
end

section
set_option Elab.async false
set_option linter.all false
set_option maxRecDepth 100000
set_option maxHeartbeats 4000000
namespace KK
open PySem PySem.Spec PyProof.Rows L2 VL
abbrev s_law_twin_right : Stmt := topS 53
abbrev N_law_twin_right : List Str := ["hand", "factor", "modulus", "twin", "number"]
theorem sc_law_twin_right : FnScope N_law_twin_right ["hand", "factor", "modulus"] (defScope s_law_twin_right) := ⟨rfl, rfl, rfl, by decide +kernel, rfl, by decide +kernel, by decide +kernel⟩
variable {P : Program} {w : World} {K : PySem.W.Frag} {mg : Str → Option Value} {base : Heap} {f aCoinError aBadNumber aNoSystem aBadCoins aTooMany aSystem : Addr} {fd : FuncData}
def A_law_twin_right (cs ds : List D) (R : Res → List D → Prop) : Prop := ∃ (h : Hd) (fa m : Int), cs = h.ds ∧ ds = [.int fa, .int m] ∧ RuleIn fa m 1 ∧ ∀ h' : Hd, R (.ok (.bl true)) h'.ds
theorem ok_law_twin_right (T : Blt mg) (F_law_draw : FnV P w K mg base 1 "_law_draw" (mutS A_law_draw)) (F_twin_factor : FnV P w K mg base 4 "twin_factor" (detS (A_twin_factor aBadNumber))) (F_law_keeps : FnV P w K mg base 1 "_law_keeps" (detS A_law_keeps)) (F_same_rule : FnV P w K mg base 4 "same_rule" (detS (A_same_rule aBadNumber aTooMany))) (Fu : Fun K "_law_twin_right" "_law_twin_right" s_law_twin_right f fd) (hb : Binds K fd ["hand", "factor", "modulus"] []) (hm : mg "_law_twin_right" = some (.ref f)) : FnV P w K mg base 5 "_law_twin_right" (mutS A_law_twin_right) := by
  refine fn_mut (k := 4) (fun cs ds R R' h ⟨hd, x, y, a, b, c, r⟩ => ⟨hd, x, y, a, b, c, fun h' => h _ _ (r h')⟩) Fu sc_law_twin_right hb hm (fun cs ds R ⟨hd, x, y, a, b, _⟩ => by subst b; rfl) fun cdv A' outer s H E hr B q cs ds R ⟨h, fa, m, e1, e2, hin, hR⟩ => ?_
  subst e1 e2
  have hq := hin.q
  obtain ⟨⟨a1, a2⟩, ⟨b1, b2⟩, _⟩ := hin
  have hun : (cx P w K mg base N_law_twin_right "_law_twin_right" s_law_twin_right f cdv A' outer s H E).A.units + 70 < cLine := by have := hr.un; omega
  obtain ⟨t0, t1⟩ := twin_in (f := fa) (m := m) (by omega)
  have tb := twin_back (f := fa) (m := m) (by omega)
  have tk := fun n h0 h1 => twin_keeps (f := fa) (m := m) (n := n) (by omega) h0 h1
  have etw : twinI fa m = (m + 1 - fa) % m := rfl
  have lgt : (twinI fa m).natAbs.log2 < 1920 := Nat.lt_of_lt_of_le (lg2 (b := 100) (by decide) (by omega)) (by decide)
  have tw1 : A_twin_factor aBadNumber [.int fa, .int m] (.ok (.int (twinI fa m))) := ⟨_, _, rfl, rfl, rfl, (okR_t hq).symm⟩
  refine css_asg 3 B (d := .int (twinI fa m)) (c_call F_twin_factor (hr.mono (by decide)) (d_cons (c_var 1) (d_cons (c_var 2) d_nil)) (fun R h => ⟨_, _, rfl, tw1, h⟩)) ?_
  show CSs _ [.mut q h.ds, .dat (.int fa), .dat (.int m), .dat (.int (twinI fa m)), .un] _ _
  refine css_if (k := false) (t_neS1 (c_reprI (i := twinI fa m) hr.gd hun T.repr (c_var 3) lgt) (c_reprI (i := twinI fa m) hr.gd hun T.repr (CE.eq (c_mod (c_intI T.int (c_sub (c_add (c_var 2) c_int) (c_var 1))) (c_var 2) (by omega)) (congrArg D.int etw.symm)) lgt)) (fun h => Bool.noConfusion h) (fun _ => css_nil ?_)
  have d1 := Hd.draw_lt (h := h) (many := m) (by omega)
  refine css_asg 4 B (c_callM 0 F_law_draw (hr.mono (by decide)) rfl (d_cons (c_var 2) d_nil) rfl (fun R h' => ⟨_, _, _, rfl, h, m, rfl, rfl, by omega, by omega, h'⟩)) ?_
  generalize h.next m = h1
  generalize h.draw m = n at *
  have tkn := tk n (by omega) (by omega)
  refine css_if (k := false) (CT.eq (t_neB (i := ruleB fa m 1 n) (j := ruleB fa m 1 n) (c_call F_law_keeps (hr.mono (by decide)) (d_cons (c_var 1) (d_cons (c_var 2) (d_cons c_int (d_cons (c_var 4) d_nil)))) (fun R h => ⟨_, _, rfl, ⟨_, _, _, _, rfl, by omega, lt3 (by omega) a2, lt3 (by decide) (by decide), lt3 (by omega) (by omega), rfl⟩, h⟩)) (CE.eq (c_call (d := .bl (ruleB (twinI fa m) m 1 n)) F_law_keeps (hr.mono (by decide)) (d_cons (c_var 3) (d_cons (c_var 2) (d_cons c_int (d_cons (c_var 4) d_nil)))) (fun R h => ⟨_, _, rfl, ⟨_, _, _, _, rfl, by omega, lt3 t0 (by omega), lt3 (by decide) (by decide), lt3 (by omega) (by omega), rfl⟩, h⟩)) (congrArg D.bl tkn))) (by rw [decide_eq_true rfl]; rfl)) (fun h => Bool.noConfusion h) (fun _ => css_nil ?_)
  refine css_if (t_eqI (c_var 3) c_int) (fun _ => css_ret c_bl ⟨_, rfl, hR h1⟩) (fun h => css_nil ?_)
  have tne : twinI fa m ≠ 0 := of_decide_eq_false h
  have hq2 : RuleIn (twinI fa m) m 1 := ⟨⟨by omega, by omega⟩, ⟨b1, b2⟩, by decide, by decide⟩
  have tw2 : A_twin_factor aBadNumber [.int (twinI fa m), .int m] (.ok (.int (twinI (twinI fa m) m))) := ⟨_, _, rfl, rfl, rfl, (okR_t hq2.q).symm⟩
  refine css_if (k := false) (CT.eq (t_neI (i := twinI (twinI fa m) m) (j := fa % m) (c_call F_twin_factor (hr.mono (by decide)) (d_cons (c_var 3) (d_cons (c_var 2) d_nil)) (fun R h => ⟨_, _, rfl, tw2, h⟩)) (c_mod (c_intI T.int (c_var 1)) (c_var 2) (by omega))) (by rw [tb, decide_eq_true rfl]; rfl)) (fun h => Bool.noConfusion h) (fun _ => css_nil ?_)
  refine css_ret (CE.eq (c_or (l := true) (c_gt (c_var 2) c_int) (fun hk => c_one (CE.eq (c_isB (i := true) (j := true) (c_call F_same_rule (hr.mono (by decide)) (d_cons (c_var 1) (d_cons (c_var 3) (d_cons (c_var 2) d_nil))) (fun R h => ⟨_, _, rfl, ?_, h⟩)) c_bl) (congrArg D.bl (decide_eq_true rfl))))) (congrArg D.bl (Bool.or_true _))) ⟨_, rfl, hR h1⟩
  have hk := of_decide_eq_false hk
  obtain ⟨mn, rfl⟩ := nat_of (show 0 ≤ m by omega)
  refine ⟨_, _, _, rfl, rfl, rfl, rfl, .inr (.inr ⟨fa, twinI fa mn, mn, rfl, rfl, rfl, ⟨a1, ms_le a2⟩, ⟨by omega, ms_le (by omega)⟩, ⟨by omega, by omega⟩, ?_⟩)⟩
  have : sameB fa (twinI fa mn) mn = true := List.all_eq_true.mpr fun z hz => by
    have := rangeI_mem.mp hz
    rw [tk z (by omega) (by omega)]
    simp
  rw [this]
end KK
end

section
set_option Elab.async false
set_option linter.all false
set_option maxRecDepth 100000
set_option maxHeartbeats 4000000
namespace KK
open PySem PySem.Spec PyProof.Rows L2 VL
abbrev s_law_same_right : Stmt := topS 54
abbrev N_law_same_right : List Str := ["hand", "modulus", "one", "other", "due"]
theorem sc_law_same_right : FnScope N_law_same_right ["hand", "modulus"] (defScope s_law_same_right) := ⟨rfl, rfl, rfl, by decide +kernel, rfl, by decide +kernel, by decide +kernel⟩
variable {P : Program} {w : World} {K : PySem.W.Frag} {mg : Str → Option Value} {base : Heap} {f aCoinError aBadNumber aNoSystem aBadCoins aTooMany aSystem : Addr} {fd : FuncData}
def A_law_same_right (cs ds : List D) (R : Res → List D → Prop) : Prop := ∃ (h : Hd) (m : Nat), cs = h.ds ∧ ds = [.int (m : Nat)] ∧ (2 ≤ m ∧ m ≤ 60) ∧ ∀ h' : Hd, R (.ok (.bl true)) h'.ds
theorem kL_same {a b : Int} {m : Nat} (hm : 1 ≤ m) : decide (kL a m 1 m = kL b m 1 m) = sameB a b m := by
  rw [Bool.eq_iff_iff, decide_eq_true_eq]
  unfold kL sameB
  rw [List.all_eq_true]
  constructor
  · intro h n hn
    have hn := rangeI_mem.mp hn
    obtain ⟨k, rfl⟩ := nat_of (show 0 ≤ n by omega)
    have := List.map_inj_left.mp h k (List.mem_range.mpr (by omega))
    rw [this]; simp
  · intro h
    refine List.map_inj_left.mpr fun k hk => ?_
    have hk := List.mem_range.mp hk
    by_cases hz : k = 0
    · subst hz
      have S := fun z => (rule_sg (f := z) (s := 1) hm (by decide)).zero
      exact (S a).trans (S b).symm
    · have := h (k : Nat) (rangeI_mem.mpr ⟨by omega, by omega⟩)
      simpa using this
theorem ok_law_same_right (T : Blt mg) (F_law_draw : FnV P w K mg base 1 "_law_draw" (mutS A_law_draw)) (F_law_kept : FnV P w K mg base 2 "_law_kept" (detS A_law_kept)) (F_same_rule : FnV P w K mg base 4 "same_rule" (detS (A_same_rule aBadNumber aTooMany))) (Fu : Fun K "_law_same_right" "_law_same_right" s_law_same_right f fd) (hb : Binds K fd ["hand", "modulus"] []) (hm : mg "_law_same_right" = some (.ref f)) : FnV P w K mg base 5 "_law_same_right" (mutS A_law_same_right) := by
  refine fn_mut (k := 4) (fun cs ds R R' h ⟨hd, x, a, b, c, r⟩ => ⟨hd, x, a, b, c, fun h' => h _ _ (r h')⟩) Fu sc_law_same_right hb hm (fun cs ds R ⟨hd, x, a, b, _⟩ => by subst b; rfl) fun cdv A' outer s H E hr B q cs ds R ⟨h, m, e1, e2, hm1, hR⟩ => ?_
  subst e1 e2
  have hun : (cx P w K mg base N_law_same_right "_law_same_right" s_law_same_right f cdv A' outer s H E).A.units + 70 < cLine := by have := hr.un; omega
  have d1 := Hd.draw_lt (h := h) (many := 2 * (m : Int)) (by omega)
  have d2 := Hd.draw_lt (h := h.next (2 * (m : Int))) (many := 2 * (m : Int)) (by omega)
  refine css_par 2 3 B (d_cons (c_add c_int (c_callM 0 F_law_draw (hr.mono (by decide)) rfl (d_cons (c_mul c_int (c_var 1) (.inl ⟨by decide, by decide⟩)) d_nil) rfl (fun R h' => ⟨_, _, _, rfl, h, 2 * (m : Int), rfl, rfl, by omega, by omega, h'⟩))) (d_cons (c_add c_int (c_callM 0 F_law_draw (hr.mono (by decide)) rfl (d_cons (c_mul c_int (c_var 1) (.inl ⟨by decide, by decide⟩)) d_nil) rfl (fun R h' => ⟨_, _, _, rfl, h.next (2 * (m : Int)), 2 * (m : Int), rfl, rfl, by omega, by omega, h'⟩))) d_nil)) ?_
  generalize (h.next (2 * (m : Int))).next (2 * (m : Int)) = h1
  obtain ⟨a, ha⟩ : ∃ a, a = 1 + h.draw (2 * (m : Int)) := ⟨_, rfl⟩
  obtain ⟨b, hb'⟩ : ∃ b, b = 1 + (h.next (2 * (m : Int))).draw (2 * (m : Int)) := ⟨_, rfl⟩
  rw [← ha, ← hb']
  have a1 : 1 ≤ a ∧ a ≤ 120 := by omega
  have b1 : 1 ≤ b ∧ b ≤ 120 := by omega
  clear ha hb' d1 d2
  have kp : ∀ z : Int, 1 ≤ z → z ≤ 120 → A_law_kept [.int z, .int (m : Nat), .int 1, .int (m : Nat)] (.ok (.lst ((kL z m 1 m).map D.bl))) := fun z h0 h1 => ⟨_, _, _, _, rfl, by omega, lt3 (by omega) (by omega), lt3 (by decide) (by decide), by omega, rfl⟩
  refine css_asg 4 B (d := .bl (sameB a b m)) (CE.eq (c_eqLB (xs := kL a m 1 m) (ys := kL b m 1 m) (by omega) (c_call F_law_kept (hr.mono (by decide)) (d_cons (c_var 2) (d_cons (c_var 1) (d_cons c_int (d_cons (c_var 1) d_nil)))) (fun R h => ⟨_, _, rfl, kp a a1.1 a1.2, h⟩)) (c_call F_law_kept (hr.mono (by decide)) (d_cons (c_var 3) (d_cons (c_var 1) (d_cons c_int (d_cons (c_var 1) d_nil)))) (fun R h => ⟨_, _, rfl, kp b b1.1 b1.2, h⟩))) (congrArg D.bl (kL_same (by omega)))) ?_
  exact css_ret (CE.eq (c_eqS (c_reprB (k := sameB a b m) hr.gd hun T.repr (c_call F_same_rule (hr.mono (by decide)) (d_cons (c_var 2) (d_cons (c_var 3) (d_cons (c_var 1) d_nil))) (fun R h => ⟨_, _, rfl, ⟨_, _, _, rfl, rfl, rfl, rfl, .inr (.inr ⟨a, b, m, rfl, rfl, rfl, ⟨a1.1, ms_le (by omega)⟩, ⟨b1.1, ms_le (by omega)⟩, ⟨by omega, by omega⟩, rfl⟩)⟩, h⟩))) (c_reprB hr.gd hun T.repr (c_var 4))) (congrArg D.bl (decide_eq_true rfl))) ⟨_, rfl, hR h1⟩
end KK
end

section
set_option Elab.async false
set_option linter.all false
set_option maxRecDepth 100000
set_option maxHeartbeats 4000000
namespace KK
open PySem PySem.Spec PyProof.Rows L2 VL
abbrev s_law_ways_right : Stmt := topS 55
abbrev N_law_ways_right : List Str := ["hand", "modulus", "factor", "kept", "due", "system", "flags", "some", "one", "number"]
theorem sc_law_ways_right : FnScope N_law_ways_right ["hand", "modulus"] (defScope s_law_ways_right) := ⟨rfl, rfl, rfl, by decide +kernel, rfl, by decide +kernel, by decide +kernel⟩
variable {P : Program} {w : World} {K : PySem.W.Frag} {mg : Str → Option Value} {base : Heap} {f aCoinError aBadNumber aNoSystem aBadCoins aTooMany aSystem : Addr} {fd : FuncData}
def A_law_ways_right (cs ds : List D) (R : Res → List D → Prop) : Prop := ∃ (h : Hd) (m : Nat), cs = h.ds ∧ ds = [.int (m : Nat)] ∧ (2 ≤ m ∧ m ≤ 60) ∧ ∀ h' : Hd, R (.ok (.bl true)) h'.ds
def wayP : List (List Int) := [[2, 3], [3, 5, 7], [4, 5], [1], [5, 7, 9]]
theorem way_all : wayP.all (fun l => okC l && decide (frobI l ≤ 40)) = true := by decide +kernel
def wayD (l : List Int) : D := .tup (l.map D.int)
theorem ok_law_ways_right (T : Blt mg) (Y_System : MkS P w K mg base 5 aSystem) (F_law_draw : FnV P w K mg base 1 "_law_draw" (mutS A_law_draw)) (F_law_any : FnV P w K mg base 2 "_law_any" (mutS A_law_any)) (F_law_kept : FnV P w K mg base 2 "_law_kept" (detS A_law_kept)) (F_rule_system : FnV P w K mg base 7 "rule_system" (detS (A_rule_system aSystem aBadNumber aTooMany))) (F_gap_ways : FnV P w K mg base 8 "gap_ways" (detS (A_gap_ways aSystem aBadNumber))) (F_pays : FnV P w K mg base 3 "pays" (detS (A_pays aSystem))) (Fu : Fun K "_law_ways_right" "_law_ways_right" s_law_ways_right f fd) (hb : Binds K fd ["hand", "modulus"] []) (hm : mg "_law_ways_right" = some (.ref f)) : FnV P w K mg base 9 "_law_ways_right" (mutS A_law_ways_right) := by
  refine fn_mut (k := 8) (fun cs ds R R' h ⟨hd, x, a, b, c, r⟩ => ⟨hd, x, a, b, c, fun h' => h _ _ (r h')⟩) Fu sc_law_ways_right hb hm (fun cs ds R ⟨hd, x, a, b, _⟩ => by subst b; rfl) fun cdv A' outer s H E hr B q cs ds R ⟨h, m, e1, e2, hm1, hR⟩ => ?_
  subst e1 e2
  have hun : (cx P w K mg base N_law_ways_right "_law_ways_right" s_law_ways_right f cdv A' outer s H E).A.units + 70 < cLine := by have := hr.un; omega
  have h64 : (cx P w K mg base N_law_ways_right "_law_ways_right" s_law_ways_right f cdv A' outer s H E).A.units + 64 < cLine := by omega
  have d1 := Hd.draw_lt (h := h) (many := (m : Int) - 1) (by omega)
  show CSs _ [.mut q h.ds, .dat (.int (m : Nat)), .un, .un, .un, .un, .un, .un, .un, .un] _ _
  refine css_asg 2 B (c_add c_int (c_callM 0 F_law_draw (hr.mono (by decide)) rfl (d_cons (c_sub (c_var 1) c_int) d_nil) rfl (fun R h' => ⟨_, _, _, rfl, h, (m : Int) - 1, rfl, rfl, by omega, by omega, h'⟩))) ?_
  generalize h.next ((m : Int) - 1) = h1
  obtain ⟨fa, hfa⟩ : ∃ fa, fa = 1 + h.draw ((m : Int) - 1) := ⟨_, rfl⟩
  rw [← hfa]
  have f1 : 1 ≤ fa ∧ fa ≤ 60 := by omega
  clear hfa d1
  have kp : ∀ (z : Int) (b : Nat), 1 ≤ z → z ≤ 120 → b ≤ 1000 → A_law_kept [.int z, .int (m : Nat), .int 1, .int (b : Nat)] (.ok (.lst ((kL z m 1 b).map D.bl))) := fun z b h0 h1 h2 => ⟨_, _, _, _, rfl, by omega, lt3 (by omega) (by omega), lt3 (by decide) (by decide), by omega, rfl⟩
  have SS : ∀ z : Int, Sg (ruleB z m 1) m := fun z => rule_sg (by omega) (by decide)
  have e2m : (2 * (m : Int)) = ((2 * m : Nat) : Int) := by omega
  have e2m4 : (2 * (m : Int) + 40) = ((2 * m + 40 : Nat) : Int) := by omega
  have bnd : ∀ i : Nat, i < ((m : Int) - 1).toNat → 1 ≤ (1 : Int) + (i : Nat) ∧ (1 : Int) + (i : Nat) ≤ 120 := fun i hi => by omega
  refine css_asg 3 B (d := .lst ((kL fa m 1 (2 * m)).map D.bl)) (c_call F_law_kept (hr.mono (by decide)) (d_cons (c_var 2) (d_cons (c_var 1) (d_cons c_int (d_cons (CE.eq (c_mul c_int (c_var 1) (.inl ⟨by decide, by decide⟩)) (congrArg D.int e2m)) d_nil)))) (fun R h => ⟨_, _, rfl, kp fa _ f1.1 (by omega) (by omega), h⟩)) ?_
  show CSs _ [.mut q h1.ds, .dat (.int (m : Nat)), .dat (.int fa), .dat (.lst ((kL fa m 1 (2 * m)).map D.bl)), .un, .un, .un, .un, .un, .un] _ _
  have ewf : ∀ o : Int, decide (kL o m 1 (2 * m) = kL fa m 1 (2 * m)) = decide (nd (sgC (ruleB o m 1) m) = nd (sgC (ruleB fa m 1) m)) := fun o => by
    have hf := sg_frob (SS fa) (by omega)
    rw [nd_flags (sg_ok (SS fa) (by omega)) (SS o) (by omega) (b := 2 * m) (by omega) (by omega)]
    unfold kL
    refine decide_eq_decide.mpr ?_
    have : ((List.range (2 * m)).map fun k => paysB (sgC (ruleB fa m 1) m) (k : Nat)) = (List.range (2 * m)).map fun k => ruleB fa m 1 (k : Nat) := List.map_congr_left fun k _ => sg_paysB (SS fa) (by omega) (by omega)
    rw [this]
  refine css_lcF 4 (CL.eq (es2 := (gapW (sgC (ruleB fa m 1) m) m).map D.int) (l_lc1 (T := .nm 8) (fun d => d) (fun d => match d with | .int n => decide (kL n m 1 (2 * m) = kL fa m 1 (2 * m)) | _ => false) (ci_range2 T.range c_int (c_var 1) ⟨by decide, by decide, by omega, by omega⟩) [("one", 8)] B (blkOk_by (N := N_law_ways_right) (sc := defScope s_law_ways_right) (by decide +kernel)) (fun _ _ _ _ _ => tg_nm 8 B.nd) (by decide) (fun k p ds hk h => by rcases List.mem_singleton.mp hk with rfl; cases h) (fun i d hd => ?_) (szl (by rw [rangeD_len]; omega))) ?_) ?_
  · obtain ⟨hi, rfl⟩ := rangeD_inv hd
    obtain ⟨i1, i2⟩ := bnd i hi
    exact ⟨_, .nm, (fun k p es h => by rcases k with _ | _ | _ | _ | _ | _ | _ | _ | _ | _ | k <;> first | exact h | cases h), fun _ _ _ _ _ => t_eqLB h64 (c_call F_law_kept (hr.mono (by decide)) (d_cons (c_var 8) (d_cons (c_var 1) (d_cons c_int (d_cons (CE.eq (c_mul c_int (c_var 1) (.inl ⟨by decide, by decide⟩)) (congrArg D.int e2m)) d_nil)))) (fun R h => ⟨_, _, rfl, kp _ _ i1 i2 (by omega), h⟩)) (c_var 3), fun _ _ _ _ _ _ => c_var 8⟩
  · rw [rangeD_eq, show ((m : Int) - 1).toNat = m - 1 by omega, List.map_id', List.filter_map]
    unfold gapW
    congr 1
    exact List.filter_congr fun n _ => ewf n
  have hok := sg_ok (SS fa) (by omega)
  have gw : ∀ cs : List Int, okC cs = true → A_gap_ways aSystem aBadNumber [sysD aSystem cs, .int (m : Nat)] (.ok (.tup ((gapW cs m).map D.int))) := fun cs ho => ⟨cs, _, rfl, ho, rfl, .inr ⟨m, rfl, by omega, by omega, rfl⟩⟩
  refine css_if (k := false) (CT.eq (t_neLI (xs := gapW (sgC (ruleB fa m 1) m) m) (ys := gapW (sgC (ruleB fa m 1) m) m) (by omega) (CN.ce (n_listT T.list (c_call F_gap_ways (hr.mono (by decide)) (d_cons (c_call (d := sysD aSystem (sgC (ruleB fa m 1) m)) F_rule_system (hr.mono (by decide)) (d_cons (c_var 2) (d_cons (c_var 1) (d_cons c_int d_nil))) (fun R h => ⟨_, _, rfl, ⟨_, _, _, rfl, rfl, rfl, rfl, .inr (.inr ⟨fa, 1, m, rfl, rfl, rfl, ⟨f1.1, ms_le (by omega)⟩, ⟨by omega, by omega⟩, ⟨by decide, ms_le (by decide)⟩, rfl⟩)⟩, h⟩)) (d_cons (c_var 1) d_nil)) (fun R h => ⟨_, _, rfl, gw _ hok, h⟩)))) (c_var 4)) (by rw [decide_eq_true rfl]; rfl)) (fun h => Bool.noConfusion h) (fun _ => css_nil ?_)
  generalize gapW (sgC (ruleB fa m 1) m) m = du
  generalize (kL fa m 1 (2 * m)).map D.bl = kp0
  show CSs _ [.mut q h1.ds, .dat (.int (m : Nat)), .dat (.int fa), .dat (.lst kp0), .dat (.lst (du.map D.int)), .un, .un, .un, .un, .un] _ _
  have d1 := Hd.draw_lt (h := h1) (many := 5) (by decide)
  obtain ⟨cs, hp⟩ : ∃ p, wayP[(h1.draw 5).toNat]? = some p := ⟨_, List.getElem?_eq_getElem (by show _ < 5; omega)⟩
  have hcs := List.all_eq_true.mp way_all _ (List.mem_of_getElem? hp)
  obtain ⟨ho, hfr⟩ := Bool.and_eq_true_iff.mp hcs
  have hfr := of_decide_eq_true hfr
  have hpd : (wayP.map wayD).getD (h1.draw 5).toNat .non = .tup (cs.map D.int) := by rw [List.getD_eq_getElem?_getD, List.getElem?_map, hp]; rfl
  refine css_asg 5 B (d := sysD aSystem cs) (c_sys Y_System (hr.mono (by decide)) (CE.eq (c_callM 0 F_law_any (hr.mono (by decide)) rfl (d_cons (CE.eq (y := .lst (wayP.map wayD)) (CN.ce (n_lst (d_cons (c_tup (d_cons c_int (d_cons c_int d_nil)) (sz (by simp))) (d_cons (c_tup (d_cons c_int (d_cons c_int (d_cons c_int d_nil))) (sz (by simp))) (d_cons (c_tup (d_cons c_int (d_cons c_int d_nil)) (sz (by simp))) (d_cons (c_tup (d_cons c_int d_nil) (sz (by simp))) (d_cons (c_tup (d_cons c_int (d_cons c_int (d_cons c_int d_nil))) (sz (by simp))) d_nil))))) (sz (by simp)))) rfl) d_nil) rfl (fun R h' => ⟨_, _, _, rfl, h1, _, rfl, rfl, by simp [wayP], by decide, h'⟩)) hpd) ho) ?_
  clear hpd hp d1
  generalize h1.next ((wayP.map wayD).length : Nat) = h2
  show CSs _ [.mut q h2.ds, .dat (.int (m : Nat)), .dat (.int fa), .dat (.lst kp0), .dat (.lst (du.map D.int)), .dat (sysD aSystem cs), .un, .un, .un, .un] _ _
  refine css_asg 6 B (d := .lst (((List.range (2 * m + 40)).map fun k => paysB cs (k : Nat)).map D.bl)) (CE.eq (CN.ce (n_lc0 (T := .nm 9) (fun d => match d with | .int n => .bl (paysB cs n) | _ => .non) (ci_range1 T.range (CE.eq (c_add (c_mul c_int (c_var 1) (.inl ⟨by decide, by decide⟩)) c_int) (congrArg D.int e2m4)) ⟨by omega, by omega⟩) [("number", 9)] B (blkOk_by (N := N_law_ways_right) (sc := defScope s_law_ways_right) (by decide +kernel)) (fun _ _ _ _ _ => tg_nm 9 B.nd) (by decide) (fun k p ds hk h => by rcases List.mem_singleton.mp hk with rfl; cases h) (fun i d hd => ?_) (szl (by rw [rangeD_len]; omega)))) ?_) ?_
  · obtain ⟨hi, rfl⟩ := rangeD_inv hd
    exact ⟨_, .nm, (fun k p es h => by rcases k with _ | _ | _ | _ | _ | _ | _ | _ | _ | _ | k <;> first | exact h | cases h), fun _ _ _ _ _ => c_call F_pays (hr.mono (by decide)) (d_cons (c_var 5) (d_cons (c_var 9) d_nil)) (fun R h => ⟨_, _, rfl, ⟨cs, _, rfl, ho, rfl⟩, h⟩)⟩
  · unfold rangeD
    rw [List.map_map, List.map_map, Int.toNat_natCast]
    refine congrArg D.lst (List.map_congr_left fun k _ => ?_)
    show D.bl (paysB cs (0 + (k : Nat))) = D.bl (paysB cs (k : Nat))
    rw [Int.zero_add]
  have ewf2 : ∀ o : Int, decide (kL o m 1 (2 * m + 40) = (List.range (2 * m + 40)).map fun k => paysB cs (k : Nat)) = decide (nd (sgC (ruleB o m 1) m) = nd cs) := fun o => by
    rw [nd_flags ho (SS o) (by omega) (b := 2 * m + 40) (by omega) (by omega)]
    rfl
  show CSs _ [.mut q h2.ds, .dat (.int (m : Nat)), .dat (.int fa), .dat (.lst kp0), .dat (.lst (du.map D.int)), .dat (sysD aSystem cs), .dat (.lst (((List.range (2 * m + 40)).map fun k => paysB cs (k : Nat)).map D.bl)), .un, .un, .un] _ _
  refine css_lcF 7 (CL.eq (es2 := (gapW cs m).map D.int) (l_lc1 (T := .nm 8) (fun d => d) (fun d => match d with | .int n => decide (kL n m 1 (2 * m + 40) = (List.range (2 * m + 40)).map fun k => paysB cs (k : Nat)) | _ => false) (ci_range2 T.range c_int (c_var 1) ⟨by decide, by decide, by omega, by omega⟩) [("one", 8)] B (blkOk_by (N := N_law_ways_right) (sc := defScope s_law_ways_right) (by decide +kernel)) (fun _ _ _ _ _ => tg_nm 8 B.nd) (by decide) (fun k p ds hk h => by rcases List.mem_singleton.mp hk with rfl; cases h) (fun i d hd => ?_) (szl (by rw [rangeD_len]; omega))) ?_) ?_
  · obtain ⟨hi, rfl⟩ := rangeD_inv hd
    obtain ⟨i1, i2⟩ := bnd i hi
    exact ⟨_, .nm, (fun k p es h => by rcases k with _ | _ | _ | _ | _ | _ | _ | _ | _ | _ | k <;> first | exact h | cases h), fun _ _ _ _ _ => t_eqLB h64 (c_call F_law_kept (hr.mono (by decide)) (d_cons (c_var 8) (d_cons (c_var 1) (d_cons c_int (d_cons (CE.eq (c_add (c_mul c_int (c_var 1) (.inl ⟨by decide, by decide⟩)) c_int) (congrArg D.int e2m4)) d_nil)))) (fun R h => ⟨_, _, rfl, kp _ _ i1 i2 (by omega), h⟩)) (c_var 6), fun _ _ _ _ _ _ => c_var 8⟩
  · rw [rangeD_eq, show ((m : Int) - 1).toNat = m - 1 by omega, List.map_id', List.filter_map]
    unfold gapW
    congr 1
    exact List.filter_congr fun n _ => ewf2 n
  exact css_ret (CE.eq (c_eqLI (xs := gapW cs m) (ys := gapW cs m) (by omega) (CN.ce (n_listT T.list (c_call F_gap_ways (hr.mono (by decide)) (d_cons (c_var 5) (d_cons (c_var 1) d_nil)) (fun R h => ⟨_, _, rfl, gw _ ho, h⟩)))) (c_var 7)) (congrArg D.bl (decide_eq_true rfl))) ⟨_, rfl, hR h2⟩
end KK
end

section
set_option Elab.async false
set_option linter.all false
set_option maxRecDepth 100000
set_option maxHeartbeats 4000000
namespace KK
open PySem PySem.Spec PyProof.Rows L2 VL VLH LamX
abbrev s_law_word : Stmt := topS 56
abbrev N_law_word : List Str := ["call", "error", "flags"]
theorem sc_law_word : FnScope N_law_word ["call"] (defScope s_law_word) := ⟨rfl, rfl, rfl, by decide +kernel, rfl, by decide +kernel, by decide +kernel⟩
open L2H (HotC)
/-- what is asked of the classes -/
structure Wt (K : PySem.W.Frag) (mg : Str → Option Value) (aCoinError aTooMany aBadNumber : Addr) : Prop where
  isinstance : mg "isinstance" = none
  ce : mg "CoinError" = some (.ref aCoinError)
  ve : mg "ValueError" = none
  g_TooMany : mg "TooMany" = some (.ref aTooMany)
  x_TooMany : PySem.W.exmOne K (.ref aTooMany) (.ref aCoinError) = some true
  v_TooMany : PySem.W.kitOne K (.ref aTooMany) (.type "ValueError") = some true
  e_TooMany : ExcD K aTooMany
  k_TooMany_TooMany : PySem.W.kitOne K (.ref aTooMany) (.ref aTooMany) = some true
  k_TooMany_BadNumber : PySem.W.kitOne K (.ref aTooMany) (.ref aBadNumber) = some false
  g_BadNumber : mg "BadNumber" = some (.ref aBadNumber)
  x_BadNumber : PySem.W.exmOne K (.ref aBadNumber) (.ref aCoinError) = some true
  v_BadNumber : PySem.W.kitOne K (.ref aBadNumber) (.type "ValueError") = some true
  e_BadNumber : ExcD K aBadNumber
  k_BadNumber_TooMany : PySem.W.kitOne K (.ref aBadNumber) (.ref aTooMany) = some false
  k_BadNumber_BadNumber : PySem.W.kitOne K (.ref aBadNumber) (.ref aBadNumber) = some true
  fC : XfC K aTooMany
  nC : PySem.W.findIn K (.ref aTooMany) "most" = some none
def suiteW : List Stmt := match defBody s_law_word with
  | .Try _ [.ExceptHandler _ _ b _] _ _ _ :: _ => b
  | _ => []
section
variable {K : PySem.W.Frag} {mg : Str → Option Value} {aCoinError aTooMany aBadNumber : Addr}
/-- the context of _law_word -/
abbrev cxw (P : Program) (w : World) (K : PySem.W.Frag) (mg : Str → Option Value) (base : Heap) (g : Addr) (cdg : Value) (A : Around) (outer : List Env) (s : Shared) (H : Hp) : Cx := (cxOf C8.CX0 P w K mg base N_law_word "_law_word" (defScope s_law_word) g cdg A outer s H C8.E0).nox
theorem suite_ok {P : Program} {w : World} {base : Heap} {g : Addr} {cdg : Value} {A : Around} {outer : List Env} {s : Shared} {H : Hp} (T : Wt K mg aCoinError aTooMany aBadNumber) {aE D : Addr} {oe : Obj} {dd : Option Addr} {fs : List (Str × VL.D)} {pn : List (Addr × Obj)} {k1 k2 : Bool} {dW : VL.D}
    (hz : L2N.Zn (.ref D) dd oe) (hf : ∃ vs, oe.data = .fields vs) (hE : ExcD K D) (h1 : PySem.W.kitOne K (.ref D) (.ref aTooMany) = some k1) (h2 : PySem.W.kitOne K (.ref D) (.ref aBadNumber) = some k2) (hv : PySem.W.kitOne K (.ref D) (.type "ValueError") = some true)
    (hd : (k1 = true ∧ k2 = false ∧ D = aTooMany ∧ ∃ d dx, dd = some dx ∧ fs = [(("most" : Str), d)] ∧ dW = .tup [.str "many", d]) ∨ (k1 = false ∧ k2 = true ∧ dW = .str "number")) :
    CSs ((cxw P w K mg base g cdg A outer s H).suite aE ((aE, oe) :: pn)) [.un, .dat (exD aE dd fs), .un] suiteW { nx := fun _ => False, rt := fun d _ => d = dW } := by
  have nd : N_law_word.Nodup := sc_law_word.nd
  have B : Bdn ((cxw P w K mg base g cdg A outer s H).suite aE ((aE, oe) :: pn)) := ⟨nd⟩
  rcases hd with ⟨rfl, rfl, rfl, d, dx, rfl, rfl, rfl⟩ | ⟨rfl, rfl, rfl⟩
  · refine css_asg 2 B (CN.ce (n_lst (d_cons (c_isD List.mem_cons_self hE hz.zc hf rel_adr T.isinstance (c_var 1) (c_gref T.g_TooMany) h1) (d_cons (c_isD List.mem_cons_self hE hz.zc hf rel_adr T.isinstance (c_var 1) (c_gref T.g_BadNumber) h2) d_nil)) (sz (by simp)))) ?_
    refine css_if (t_w (w_or (t_neI (c_countB (bs := [true, false]) (c_var 2) c_bl) c_int) (fun _ => w_or1 (t_not (t_val (c_isD List.mem_cons_self hE hz.zc hf rel_ty T.isinstance (c_var 1) (c_bty "ValueError" T.ve) hv)))))) (fun hc => absurd hc (by decide)) (fun _ => css_nil ?_)
    exact css_ret (c_if (t_val (c_ixL (c_var 2) c_int rfl)) (fun _ => (c_tup (d_cons c_str (d_cons (c_xf T.fC T.nC hz.zc hf (c_var 1) rfl) d_nil)) (sz (by simp)))) (fun hc => absurd hc (by decide))) rfl
  · refine css_asg 2 B (CN.ce (n_lst (d_cons (c_isD List.mem_cons_self hE hz.zc hf rel_adr T.isinstance (c_var 1) (c_gref T.g_TooMany) h1) (d_cons (c_isD List.mem_cons_self hE hz.zc hf rel_adr T.isinstance (c_var 1) (c_gref T.g_BadNumber) h2) d_nil)) (sz (by simp)))) ?_
    refine css_if (t_w (w_or (t_neI (c_countB (bs := [false, true]) (c_var 2) c_bl) c_int) (fun _ => w_or1 (t_not (t_val (c_isD List.mem_cons_self hE hz.zc hf rel_ty T.isinstance (c_var 1) (c_bty "ValueError" T.ve) hv)))))) (fun hc => absurd hc (by decide)) (fun _ => css_nil ?_)
    exact css_ret (c_if (t_val (c_ixL (c_var 2) c_int rfl)) (fun hc => absurd hc (by decide)) (fun _ => c_str)) rfl
end
/-- the word of a result -/
inductive Worded (aTooMany aBadNumber : Addr) : Res → D → Prop
  | ok {d : D} : immut d = true → Worded aTooMany aBadNumber (.ok d) (.str "told")
  | TooMany {a : Int} : Worded aTooMany aBadNumber (.error ⟨aTooMany, [("most", .int a)]⟩) (.tup [.str "many", .int a])
  | BadNumber : Worded aTooMany aBadNumber (.error ⟨aBadNumber, []⟩) (.str "number")
end KK
end

section
set_option Elab.async false
set_option linter.all false
set_option maxRecDepth 100000
set_option maxHeartbeats 4000000
namespace KK
open PySem PySem.Spec PyProof.Rows L2 VL VLH LamX
variable {P : Program} {w : World} {K : PySem.W.Frag} {mg : Str → Option Value} {base : Heap} {f aCoinError aBadNumber aNoSystem aBadCoins aTooMany aSystem : Addr} {fd : FuncData}
/-- _law_word(lambda: ..) in a def that makes lambdas -/
theorem c_word {Ncall : List Str} {gname : Str} {st : Stmt} {kk : Nat} {g c Pt : Addr} {fdw : FuncData} {q0 : Str} (T : Wt K mg aCoinError aTooMany aBadNumber) (Fw : Fun K "_law_word" "_law_word" s_law_word g fdw) (hbw : Binds K fdw ["call"] []) (hmw : mg "_law_word" = some (.ref g)) (TBx : TabB base mg c Pt) (hP : (Pt, q0) ∈ lamT) (hu : ∀ p ∈ lamT, p.1 = Pt → p.2 = q0) (hq : q0 = gname ++ (".<locals>.<lambda>" : Str))
    {cdv : Value} (hcd : cdv = .ref c) {A' : Around} {outer : List Env} {s : Shared} {H : Hp} {E : XK} {ρ : Lo} {params : Arguments} {body : Expr} {scope : Scope} {p lpos pos : Pos} {r0 : Res} {dW : VL.D} (hw : Worded aTooMany aBadNumber r0 dW) (hr : VL.Room (kk + 2) (cx P w K mg base Ncall gname st f cdv A' outer s H E).A)
    (hbody : ∀ (A : Around) (outer' : List Env) (s' : Shared) (H' : Hp) (E' : XK) (f' c' : Addr), VL.Room kk (A.deeper (lamEnv (cx P w K mg base Ncall gname st f cdv A' outer s H E) scope s'.heap.objs.size f' c')) → CQ (lamCxN (cx P w K mg base Ncall gname st f cdv A' outer s H E) A outer' s' H' E' scope f' c') (frz ρ) body fun r ρ' => r = r0 ∧ ρ' = frz ρ)
    (L : LamS (defScope st) scope) (hdef : ∀ env, defaultsOf params env = ([], [])) (hbind : ∀ (q : Str) (cl : List (Str × Addr)) (pm cv ctv : Value), bindArgs (PySem.W.kla_fn "<lambda>" q params body scope cl pm cv ctv) ⟨[], []⟩ = pure []) (hgl : Gl (cx P w K mg base Ncall gname st f cdv A' outer s H E) "_law_word" := by rfl) :
    CE (cx P w K mg base Ncall gname st f cdv A' outer s H E) ρ (.Call (.Name "_law_word" p) [.Lambda params body scope lpos] [] pos) dW ρ := by
  subst hq
  obtain ⟨oc, od, kV, doc, pm, an, cdw, ct, osl, efd, lk, hcg⟩ := Fw.ex
  subst efd
  refine c_lamcall (X := cx P w K mg base Ncall gname st f cdv A' outer s H E) (r0 := r0) (k := kk) (a := "call") (Ng := N_law_word) (c := c) (P := Pt) (hg := hgl) ?_ ?_ hmw Fw.kp lk hcg hbw sc_law_word rfl (.inl rfl) ?_ TBx hcd hP hu hr hbody L (hdef _) hbind
  · cases hw with
    | ok h => exact h
    | TooMany => rfl
    | BadNumber => rfl
  · cases hw with
    | ok h => rfl
    | TooMany => rfl
    | BadNumber => rfl
  · have nd : ∀ er, r0 = .error er → PySem.W.exmOne K (.ref er.C) (.ref aCoinError) = some true := fun er e => by
      cases hw with
      | ok h => cases e
      | TooMany => cases e; exact T.x_TooMany
      | BadNumber => cases e; exact T.x_BadNumber
    refine word_givesL (X := cx P w K mg base Ncall gname st f cdv A' outer s H E) (Ng := N_law_word) (x := "_law_word") (a := "call") (e := "CoinError") (n := "error") (ret := "told") (iE := 1) (CS := aCoinError) rfl T.ce (by decide) (fun _ => rfl) sc_law_word.nd rfl rfl (fun d e => ?_) (fun er e => ⟨nd er e, fun s2 H2 aE oe dd pn hz hf hdd => ?_⟩)
    · cases hw with
      | ok h => rfl
      | TooMany => cases e
      | BadNumber => cases e
    · cases hw with
      | ok h => cases e
      | @TooMany a =>
        cases e
        refine suite_ok (g := g) (cdg := cdw) (A := (cx P w K mg base Ncall gname st f cdv A' outer s H E).A) (outer := (cx P w K mg base Ncall gname st f cdv A' outer s H E).stack) (s := s2) (H := H2) T hz hf T.e_TooMany T.k_TooMany_TooMany T.k_TooMany_BadNumber T.v_TooMany (.inl ⟨rfl, rfl, rfl, .int a, ?_⟩)
        cases dd with
        | none => exact absurd (hdd rfl) (by simp)
        | some dx => exact ⟨dx, rfl, rfl, rfl⟩
      | BadNumber =>
        cases e
        exact suite_ok (g := g) (cdg := cdw) (A := (cx P w K mg base Ncall gname st f cdv A' outer s H E).A) (outer := (cx P w K mg base Ncall gname st f cdv A' outer s H E).stack) (s := s2) (H := H2) T hz hf T.e_BadNumber T.k_BadNumber_TooMany T.k_BadNumber_BadNumber T.v_BadNumber (.inr (⟨rfl, rfl, rfl⟩))
theorem owns_hd {q : Addr} {ds ds2 : List VL.D} {ρ : Lo} : owns (.mut q ds :: ρ) = owns (.mut q ds2 :: ρ) := by
  funext a
  apply propext
  unfold owns
  simp only [List.mem_cons, Sl.mut.injEq]
  constructor
  · rintro ⟨es, ⟨h, _⟩ | h⟩
    · exact ⟨ds2, .inl ⟨h, rfl⟩⟩
    · exact ⟨es, .inr h⟩
  · rintro ⟨es, ⟨h, _⟩ | h⟩
    · exact ⟨ds, .inl ⟨h, rfl⟩⟩
    · exact ⟨es, .inr h⟩
/-- .. where the lambda may turn own lists -/
theorem c_wordM {Ncall : List Str} {gname : Str} {st : Stmt} {kk : Nat} {g c Pt : Addr} {fdw : FuncData} {q0 : Str} (T : Wt K mg aCoinError aTooMany aBadNumber) (Fw : Fun K "_law_word" "_law_word" s_law_word g fdw) (hbw : Binds K fdw ["call"] []) (hmw : mg "_law_word" = some (.ref g)) (TBx : TabB base mg c Pt) (hP : (Pt, q0) ∈ lamT) (hu : ∀ p ∈ lamT, p.1 = Pt → p.2 = q0) (hq : q0 = gname ++ (".<locals>.<lambda>" : Str))
    {cdv : Value} (hcd : cdv = .ref c) {A' : Around} {outer : List Env} {s : Shared} {H : Hp} {E : XK} {ρ ρ2 : Lo} {params : Arguments} {body : Expr} {scope : Scope} {p lpos pos : Pos} {r0 : Res} {dW : VL.D} (ow : owns ρ2 = owns ρ) (hw : Worded aTooMany aBadNumber r0 dW) (hr : VL.Room (kk + 2) (cx P w K mg base Ncall gname st f cdv A' outer s H E).A)
    (hbody : ∀ (A : Around) (outer' : List Env) (s' : Shared) (H' : Hp) (E' : XK) (f' c' : Addr), VL.Room kk (A.deeper (lamEnv (cx P w K mg base Ncall gname st f cdv A' outer s H E) scope s'.heap.objs.size f' c')) → CQ (lamCxN (cx P w K mg base Ncall gname st f cdv A' outer s H E) A outer' s' H' E' scope f' c') ρ body fun r ρ' => r = r0 ∧ ρ' = ρ2)
    (L : LamS (defScope st) scope) (hdef : ∀ env, defaultsOf params env = ([], [])) (hbind : ∀ (q : Str) (cl : List (Str × Addr)) (pm cv ctv : Value), bindArgs (PySem.W.kla_fn "<lambda>" q params body scope cl pm cv ctv) ⟨[], []⟩ = pure []) (hgl : Gl (cx P w K mg base Ncall gname st f cdv A' outer s H E) "_law_word" := by rfl) :
    CE (cx P w K mg base Ncall gname st f cdv A' outer s H E) ρ (.Call (.Name "_law_word" p) [.Lambda params body scope lpos] [] pos) dW ρ2 := by
  subst hq
  obtain ⟨oc, od, kV, doc, pm, an, cdw, ct, osl, efd, lk, hcg⟩ := Fw.ex
  subst efd
  refine c_lamcallM (ow := ow) (X := cx P w K mg base Ncall gname st f cdv A' outer s H E) (r0 := r0) (k := kk) (a := "call") (Ng := N_law_word) (c := c) (P := Pt) (hg := hgl) hmw Fw.kp lk hcg hbw sc_law_word rfl (.inl rfl) ?_ TBx hcd hP hu hr hbody L (hdef _) hbind
  · have nd : ∀ er, r0 = .error er → PySem.W.exmOne K (.ref er.C) (.ref aCoinError) = some true := fun er e => by
      cases hw with
      | ok h => cases e
      | TooMany => cases e; exact T.x_TooMany
      | BadNumber => cases e; exact T.x_BadNumber
    refine word_givesLm (X := cx P w K mg base Ncall gname st f cdv A' outer s H E) (Ng := N_law_word) (x := "_law_word") (a := "call") (e := "CoinError") (n := "error") (ret := "told") (iE := 1) (CS := aCoinError) rfl T.ce (by decide) (fun _ => rfl) sc_law_word.nd rfl rfl (fun d e => ?_) (fun er e => ⟨nd er e, fun s2 H2 aE oe dd pn hz hf hdd => ?_⟩)
    · cases hw with
      | ok h => rfl
      | TooMany => cases e
      | BadNumber => cases e
    · cases hw with
      | ok h => cases e
      | @TooMany a =>
        cases e
        refine suite_ok (g := g) (cdg := cdw) (A := (cx P w K mg base Ncall gname st f cdv A' outer s H E).A) (outer := (cx P w K mg base Ncall gname st f cdv A' outer s H E).stack) (s := s2) (H := H2) T hz hf T.e_TooMany T.k_TooMany_TooMany T.k_TooMany_BadNumber T.v_TooMany (.inl ⟨rfl, rfl, rfl, .int a, ?_⟩)
        cases dd with
        | none => exact absurd (hdd rfl) (by simp)
        | some dx => exact ⟨dx, rfl, rfl, rfl⟩
      | BadNumber =>
        cases e
        exact suite_ok (g := g) (cdg := cdw) (A := (cx P w K mg base Ncall gname st f cdv A' outer s H E).A) (outer := (cx P w K mg base Ncall gname st f cdv A' outer s H E).stack) (s := s2) (H := H2) T hz hf T.e_BadNumber T.k_BadNumber_TooMany T.k_BadNumber_BadNumber T.v_BadNumber (.inr (⟨rfl, rfl, rfl⟩))
end KK
end

section
set_option Elab.async false
set_option linter.all false
set_option maxRecDepth 100000
set_option maxHeartbeats 4000000
namespace KK
open PySem PySem.Spec PyProof.Rows L2 VL VLH LamX
abbrev s_law_word_of : Stmt := topS 58
abbrev N_law_word_of : List Str := ["modulus"]
theorem sc_law_word_of : FnScope N_law_word_of ["modulus"] (defScope s_law_word_of) := ⟨rfl, rfl, rfl, by decide +kernel, rfl, by decide +kernel, by decide +kernel⟩
variable {P : Program} {w : World} {K : PySem.W.Frag} {mg : Str → Option Value} {base : Heap} {f aCoinError aBadNumber aNoSystem aBadCoins aTooMany aSystem : Addr} {fd : FuncData}
def A_law_word_of (ds : List D) (r : Res) : Prop := ∃ d : D, ds = [d] ∧ plD d = true ∧ within d 2 c_MOST_SIZE = false ∧ r = .ok (.str "number")
variable {g c Pt : Addr} {fdw : FuncData}
theorem ok_law_word_of (T : Blt mg) (W_ : Wt K mg aCoinError aTooMany aBadNumber) (Fw : Fun K "_law_word" "_law_word" s_law_word g fdw) (hbw : Binds K fdw ["call"] []) (hmw : mg "_law_word" = some (.ref g)) (TBx : TabB base mg c Pt) (hP : (Pt, ("_law_word_of.<locals>.<lambda>" : Str)) ∈ lamT) (hu : ∀ p ∈ lamT, p.1 = Pt → p.2 = ("_law_word_of.<locals>.<lambda>" : Str)) (hfc : fd.code = .ref c) (F_rule_system : FnV P w K mg base 7 "rule_system" (detS (A_rule_system aSystem aBadNumber aTooMany))) (Fu : Fun K "_law_word_of" "_law_word_of" s_law_word_of f fd) (hb : Binds K fd ["modulus"] []) (hm : mg "_law_word_of" = some (.ref f)) : FnV P w K mg base 11 "_law_word_of" (detS A_law_word_of) := by
  refine fn_pureC (k := 10) Fu sc_law_word_of hb hm (fun ds r ⟨d, e, _⟩ => by subst e; rfl) fun cdv hcd A' outer s H E hr B ds r ⟨d, e, hp, hw, er⟩ => ?_
  subst e er
  have ecd : cdv = .ref c := hcd.symm.trans hfc
  have hq0 : ("_law_word_of.<locals>.<lambda>" : Str) = ("_law_word_of" : Str) ++ (".<locals>.<lambda>" : Str) := by decide +kernel
  have hA : A_rule_system aSystem aBadNumber aTooMany [.int 2, d, .int 1] (.error ⟨aBadNumber, []⟩) := ⟨_, _, _, rfl, rfl, hp, rfl, .inl ⟨by unfold ruleQ; rw [hw]; rfl, rfl⟩⟩
  exact css_ret (c_word (kk := 8) W_ Fw hbw hmw TBx hP hu hq0 ecd .BadNumber hr (fun A o s' H' E' f' c' hr' => q_call F_rule_system (hr'.mono (by decide)) (d_cons c_int (d_cons (c_var 0) (d_cons c_int d_nil))) ⟨_, _, rfl, hA, rfl, rfl, rfl⟩) (lamS_by (by decide +kernel)) (fun _ => rfl) (fun _ _ _ _ _ => rfl)) rfl
end KK
end

section
set_option Elab.async false
set_option linter.all false
set_option maxRecDepth 100000
set_option maxHeartbeats 4000000
namespace KK
open PySem PySem.Spec PyProof.Rows L2 VL VLH LamX
abbrev s_law_word_great : Stmt := topS 59
abbrev N_law_word_great : List Str := ["ask"]
theorem sc_law_word_great : FnScope N_law_word_great ["ask"] (defScope s_law_word_great) := ⟨rfl, rfl, rfl, by decide +kernel, rfl, by decide +kernel, by decide +kernel⟩
variable {P : Program} {w : World} {K : PySem.W.Frag} {mg : Str → Option Value} {base : Heap} {f aCoinError aBadNumber aNoSystem aBadCoins aTooMany aSystem : Addr} {fd : FuncData}
def A_law_word_great (P : Program) (w : World) (K : PySem.W.Frag) (mg : Str → Option Value) (base : Heap) (aT aN : Addr) (ds : List D) (r : Res) : Prop := ∃ (f : Addr) (A : List D → Res → Prop) (r0 : Res) (dW : D), ds = [.adr f] ∧ FnA P w K mg base 8 f (detS A) ∧ A [.int 2, .int 360001, .int 1] r0 ∧ Worded aT aN r0 dW ∧ r = .ok dW
variable {g c Pt : Addr} {fdw : FuncData}
theorem ok_law_word_great (T : Blt mg) (W_ : Wt K mg aCoinError aTooMany aBadNumber) (Fw : Fun K "_law_word" "_law_word" s_law_word g fdw) (hbw : Binds K fdw ["call"] []) (hmw : mg "_law_word" = some (.ref g)) (TBx : TabB base mg c Pt) (hP : (Pt, ("_law_word_great.<locals>.<lambda>" : Str)) ∈ lamT) (hu : ∀ p ∈ lamT, p.1 = Pt → p.2 = ("_law_word_great.<locals>.<lambda>" : Str)) (hfc : fd.code = .ref c) (Fu : Fun K "_law_word_great" "_law_word_great" s_law_word_great f fd) (hb : Binds K fd ["ask"] []) (hm : mg "_law_word_great" = some (.ref f)) : FnV P w K mg base 11 "_law_word_great" (detS (A_law_word_great P w K mg base aTooMany aBadNumber)) := by
  refine fn_pureC (k := 10) Fu sc_law_word_great hb hm (fun ds r ⟨f, A, r0, dW, e, _⟩ => by subst e; rfl) fun cdv hcd A' outer s H E hr B ds r ⟨fa, A, r0, dW, e, hF, hA, hw, er⟩ => ?_
  subst e er
  have ecd : cdv = .ref c := hcd.symm.trans hfc
  have hq0 : ("_law_word_great.<locals>.<lambda>" : Str) = ("_law_word_great" : Str) ++ (".<locals>.<lambda>" : Str) := by decide +kernel
  exact css_ret (c_word (kk := 8) W_ Fw hbw hmw TBx hP hu hq0 ecd hw hr (fun A o s' H' E' f' c' hr' => q_callV 0 hF hr' rfl (d_cons c_int (d_cons c_int (d_cons c_int d_nil))) ⟨_, _, rfl, hA, rfl, rfl, rfl⟩) (lamS_by (by decide +kernel)) (fun _ => rfl) (fun _ _ _ _ _ => rfl)) rfl
end KK
end

section
set_option Elab.async false
set_option linter.all false
set_option maxRecDepth 100000
set_option maxHeartbeats 4000000
namespace KK
open PySem PySem.Spec PyProof.Rows L2 VL VLH LamX
abbrev s_law_refused_right : Stmt := topS 57
abbrev N_law_refused_right : List Str := ["hand", "odd", "small", "words"]
theorem sc_law_refused_right : FnScope N_law_refused_right ["hand"] (defScope s_law_refused_right) := ⟨rfl, rfl, rfl, by decide +kernel, rfl, by decide +kernel, by decide +kernel⟩
variable {P : Program} {w : World} {K : PySem.W.Frag} {mg : Str → Option Value} {base : Heap} {f aCoinError aBadNumber aNoSystem aBadCoins aTooMany aSystem : Addr} {fd : FuncData}
def A_hand0 (cs ds : List D) (R : Res → List D → Prop) : Prop := ∃ h : Hd, cs = h.ds ∧ ds = [] ∧ ∀ h' : Hd, R (.ok (.bl true)) h'.ds
def oddL : List D := [.int 0, .int (-1), .int (10 ^ 30 + 1), .non, .bl true, .str "2", .tup [.int 2], .lst [.int 2], .dic []]
def smlL : List D := [.int 1, .int 0, .int (-5), .int (10 ^ 30 + 1), .non, .bl true, .str "2", .lst [.int 2]]
def holL : List D := [.int (-1), .int (10 ^ 30 + 1), .non, .str "0", .bl true, .lst [.int 0]]
def mirL : List D := [.int (-1), .int 8, .non, .str "0", .bl true, .lst [.int 0]]
def wayL : List D := [.int 1, .int 121, .int 0, .non, .bl true, .str "2", .lst [.int 2]]
theorem odd_all : oddL.all (fun d => plD d && !within d 1 c_MOST_SIZE) = true := by decide +kernel
theorem sml_all : smlL.all (fun d => plD d && !within d 2 c_MOST_SIZE) = true := by decide +kernel
theorem hol_all : holL.all (fun d => plD d && !within d 0 c_MOST_SIZE) = true := by decide +kernel
theorem mir_all : mirL.all (fun d => plD d && !within d 0 7) = true := by decide +kernel
theorem wayL_all : wayL.all (fun d => plD d && !within d 2 120) = true := by decide +kernel
theorem ok23 : okC [2, 3] = true := by decide +kernel
theorem rq1 {d d2 d3 : D} (h : within d 1 c_MOST_SIZE = false) : ruleQ d d2 d3 = false := by unfold ruleQ; rw [h, Bool.false_and, Bool.and_false]
theorem rq2 {d d2 d3 : D} (h : within d2 2 c_MOST_SIZE = false) : ruleQ d d2 d3 = false := by unfold ruleQ; rw [h, Bool.false_and]
theorem rq3 {d d2 d3 : D} (h : within d3 1 c_MOST_SIZE = false) : ruleQ d d2 d3 = false := by unfold ruleQ; rw [h, Bool.and_false, Bool.and_false]
theorem andF {a b : Bool} (h : a = false) : (a && b) = false := by rw [h]; rfl
theorem andG {a b : Bool} (h : b = false) : (a && b) = false := by rw [h, Bool.and_false]
def manyD (n : Int) : D := .tup [.str "many", .int n]
variable {g c Pt : Addr} {fdw : FuncData}
theorem ok_law_refused_right (T : Blt mg) (Y_System : MkS P w K mg base 5 aSystem) (W_ : Wt K mg aCoinError aTooMany aBadNumber) (Fw : Fun K "_law_word" "_law_word" s_law_word g fdw) (hbw : Binds K fdw ["call"] []) (hmw : mg "_law_word" = some (.ref g)) (TBx : TabB base mg c Pt) (hP : (Pt, ("_law_refused_right.<locals>.<lambda>" : Str)) ∈ lamT) (hu : ∀ p ∈ lamT, p.1 = Pt → p.2 = ("_law_refused_right.<locals>.<lambda>" : Str)) (hfc : fd.code = .ref c) (F_law_any : FnV P w K mg base 2 "_law_any" (mutS A_law_any)) (F_law_word_of : FnV P w K mg base 11 "_law_word_of" (detS A_law_word_of)) (F_law_word_great : FnV P w K mg base 11 "_law_word_great" (detS (A_law_word_great P w K mg base aTooMany aBadNumber))) (F_rule_system : FnV P w K mg base 7 "rule_system" (detS (A_rule_system aSystem aBadNumber aTooMany))) (F_rule_holds : FnV P w K mg base 4 "rule_holds" (detS (A_rule_holds aBadNumber))) (F_rule_gaps : FnV P w K mg base 4 "rule_gaps" (detS (A_rule_gaps aBadNumber))) (F_rule_mirror : FnV P w K mg base 4 "rule_mirror" (detS (A_rule_mirror aBadNumber))) (F_twin_factor : FnV P w K mg base 4 "twin_factor" (detS (A_twin_factor aBadNumber))) (F_same_rule : FnV P w K mg base 4 "same_rule" (detS (A_same_rule aBadNumber aTooMany))) (F_least_kept : FnV P w K mg base 4 "least_kept" (detS (A_least_kept aBadNumber aTooMany))) (F_gap_ways : FnV P w K mg base 8 "gap_ways" (detS (A_gap_ways aSystem aBadNumber))) (Fu : Fun K "_law_refused_right" "_law_refused_right" s_law_refused_right f fd) (hb : Binds K fd ["hand"] []) (hm : mg "_law_refused_right" = some (.ref f)) : FnV P w K mg base 12 "_law_refused_right" (mutS A_hand0) := by
  refine fn_mutC (k := 11) (fun cs ds R R' h ⟨hd, a, b, r⟩ => ⟨hd, a, b, fun h' => h _ _ (r h')⟩) Fu sc_law_refused_right hb hm (fun cs ds R ⟨hd, a, b, _⟩ => by subst b; rfl) fun cdv hcd A' outer s H E hr B q cs ds R ⟨h, e1, e2, hR⟩ => ?_
  subst e1 e2
  have ecd : cdv = .ref c := hcd.symm.trans hfc
  have hun : (cx P w K mg base N_law_refused_right "_law_refused_right" s_law_refused_right f cdv A' outer s H E).A.units + 64 < cLine := by have := hr.un; omega
  have hq0 : ("_law_refused_right.<locals>.<lambda>" : Str) = ("_law_refused_right" : Str) ++ (".<locals>.<lambda>" : Str) := by decide +kernel
  obtain ⟨gL, _, _, _, mL, _, _⟩ := F_least_kept.ex
  show CSs _ [.mut q h.ds, .un, .un, .un] _ _
  have d1 := Hd.draw_lt (h := h) (many := 9) (by decide)
  have o0 := List.all_eq_true.mp odd_all _ (getD_mem (l := oddL) (k := (h.draw 9).toNat) (by show _ < 9; omega))
  refine css_asg 1 B (d := oddL.getD (h.draw 9).toNat .non) (c_callM 0 (cs := (h.next 9).ds) F_law_any (hr.mono (by decide)) rfl (d_cons (CE.eq (y := .lst oddL) (CN.ce (n_lst (d_cons c_int (d_cons (c_neg c_int) (d_cons (c_add (c_pow c_int c_int ⟨by decide, by decide, by decide⟩) c_int) (d_cons c_non (d_cons c_bl (d_cons c_str (d_cons (c_tup (d_cons c_int d_nil) (sz (by simp))) (d_cons (CN.ce (n_lst (d_cons c_int d_nil) (sz (by simp)))) (d_cons c_dict0 d_nil))))))))) (sz (by simp)))) rfl) d_nil) rfl (fun R h' => ⟨_, _, _, rfl, h, oddL, rfl, rfl, by simp [oddL], by simp [oddL], h'⟩)) ?_
  generalize h.next 9 = h0
  have d2 := Hd.draw_lt (h := h0) (many := 8) (by decide)
  have f0 := List.all_eq_true.mp sml_all _ (getD_mem (l := smlL) (k := (h0.draw 8).toNat) (by show _ < 8; omega))
  simp only [Bool.and_eq_true, Bool.not_eq_true'] at o0 f0
  refine css_asg 2 B (d := smlL.getD (h0.draw 8).toNat .non) (c_callM 0 (cs := (h0.next 8).ds) F_law_any (hr.mono (by decide)) rfl (d_cons (CE.eq (y := .lst smlL) (CN.ce (n_lst (d_cons c_int (d_cons c_int (d_cons (c_neg c_int) (d_cons (c_add (c_pow c_int c_int ⟨by decide, by decide, by decide⟩) c_int) (d_cons c_non (d_cons c_bl (d_cons c_str (d_cons (CN.ce (n_lst (d_cons c_int d_nil) (sz (by simp)))) d_nil)))))))) (sz (by simp)))) rfl) d_nil) rfl (fun R h' => ⟨_, _, _, rfl, h0, smlL, rfl, rfl, by simp [smlL], by simp [smlL], h'⟩)) ?_
  generalize h0.next 8 = h1
  generalize oddL.getD (h.draw 9).toNat .non = od at o0 ⊢
  generalize smlL.getD (h0.draw 8).toNat .non = sm at f0 ⊢
  clear d1 d2
  obtain ⟨o1, o2⟩ := o0
  obtain ⟨f1, f2⟩ := f0
  show CSs _ [.mut q h1.ds, .dat od, .dat sm, .un] _ _
  refine css_asgN 3 B (n_lst (d_cons (c_wordM (ρ2 := [.mut q h1.ds, .dat od, .dat sm, .un]) W_ Fw hbw hmw TBx hP hu hq0 ecd owns_hd .BadNumber hr (fun A o s' H' E' f' c' hr' => q_call F_rule_holds (hr'.mono (by decide)) (d_cons (c_var 1) (d_cons c_int (d_cons c_int (d_cons c_int d_nil)))) ⟨_, _, rfl, ⟨_, _, _, _, rfl, o1, rfl, rfl, rfl, (okR_f (andF (rq1 o2))).symm⟩, rfl, rfl, rfl⟩) (lamS_by (by decide +kernel)) (fun _ => rfl) (fun _ _ _ _ _ => rfl)) (d_cons (c_call F_law_word_of (hr.mono (by decide)) (d_cons (c_var 2) d_nil) (fun R h => ⟨_, _, rfl, ⟨_, rfl, f1, f2, rfl⟩, h⟩)) d_nil)) (sz (by simp))) fun q2 => ?_
  show CSs _ [.mut q h1.ds, .dat od, .dat sm, .mut q2 (List.replicate 2 (D.str "number"))] _ _
  refine css_append 3 (c_wordM (ρ2 := [.mut q h1.ds, .dat od, .dat sm, .mut q2 (List.replicate 2 (D.str "number"))]) W_ Fw hbw hmw TBx hP hu hq0 ecd owns_hd .BadNumber hr (fun A o s' H' E' f' c' hr' => q_call F_rule_gaps (hr'.mono (by decide)) (d_cons (c_var 1) (d_cons c_int d_nil)) ⟨_, _, rfl, ⟨_, _, rfl, o1, rfl, (okR_f (rq1 o2)).symm⟩, rfl, rfl, rfl⟩) (lamS_by (by decide +kernel)) (fun _ => rfl) (fun _ _ _ _ _ => rfl)) rfl rfl (szl (by simp)) ?_
  show CSs _ [.mut q h1.ds, .dat od, .dat sm, .mut q2 (List.replicate 3 (D.str "number"))] _ _
  refine css_append 3 (c_wordM (ρ2 := [.mut q h1.ds, .dat od, .dat sm, .mut q2 (List.replicate 3 (D.str "number"))]) W_ Fw hbw hmw TBx hP hu hq0 ecd owns_hd .BadNumber hr (fun A o s' H' E' f' c' hr' => q_call F_rule_holds (hr'.mono (by decide)) (d_cons c_int (d_cons c_int (d_cons (c_var 1) (d_cons c_int d_nil)))) ⟨_, _, rfl, ⟨_, _, _, _, rfl, rfl, rfl, o1, rfl, (okR_f (andF (rq3 o2))).symm⟩, rfl, rfl, rfl⟩) (lamS_by (by decide +kernel)) (fun _ => rfl) (fun _ _ _ _ _ => rfl)) rfl rfl (szl (by simp)) ?_
  show CSs _ [.mut q h1.ds, .dat od, .dat sm, .mut q2 (List.replicate 4 (D.str "number"))] _ _
  have dhh := Hd.draw_lt (h := h1) (many := 6) (by decide)
  have hh0 := List.all_eq_true.mp hol_all _ (getD_mem (l := holL) (k := (h1.draw 6).toNat) (by show _ < 6; omega))
  simp only [Bool.and_eq_true, Bool.not_eq_true'] at hh0
  refine css_append 3 (c_wordM (ρ2 := [.mut q (h1.next 6).ds, .dat od, .dat sm, .mut q2 (List.replicate 4 (D.str "number"))]) W_ Fw hbw hmw TBx hP hu hq0 ecd owns_hd .BadNumber hr (fun A o s' H' E' f' c' hr' => q_call F_rule_holds (hr'.mono (by decide)) (d_cons c_int (d_cons c_int (d_cons c_int (d_cons (c_callM 0 (cs := (h1.next 6).ds) F_law_any (hr'.mono (by decide)) rfl (d_cons (CE.eq (y := .lst holL) (CN.ce (n_lst (d_cons (c_neg c_int) (d_cons (c_add (c_pow c_int c_int ⟨by decide, by decide, by decide⟩) c_int) (d_cons c_non (d_cons c_str (d_cons c_bl (d_cons (CN.ce (n_lst (d_cons c_int d_nil) (sz (by simp)))) d_nil)))))) (sz (by simp)))) rfl) d_nil) rfl (fun R h' => ⟨_, _, _, rfl, h1, holL, rfl, rfl, by simp [holL], by simp [holL], h'⟩)) d_nil)))) ⟨_, _, rfl, ⟨_, _, _, _, rfl, rfl, rfl, rfl, hh0.1, (okR_f (andG hh0.2)).symm⟩, rfl, rfl, rfl⟩) (lamS_by (by decide +kernel)) (fun _ => rfl) (fun _ _ _ _ _ => rfl)) rfl rfl (szl (by simp)) ?_
  clear dhh hh0
  generalize h1.next 6 = h2
  show CSs _ [.mut q h2.ds, .dat od, .dat sm, .mut q2 (List.replicate 5 (D.str "number"))] _ _
  have dmm := Hd.draw_lt (h := h2) (many := 6) (by decide)
  have mm0 := List.all_eq_true.mp mir_all _ (getD_mem (l := mirL) (k := (h2.draw 6).toNat) (by show _ < 6; omega))
  simp only [Bool.and_eq_true, Bool.not_eq_true'] at mm0
  refine css_append 3 (c_wordM (ρ2 := [.mut q (h2.next 6).ds, .dat od, .dat sm, .mut q2 (List.replicate 5 (D.str "number"))]) W_ Fw hbw hmw TBx hP hu hq0 ecd owns_hd .BadNumber hr (fun A o s' H' E' f' c' hr' => q_call F_rule_mirror (hr'.mono (by decide)) (d_cons c_int (d_cons c_int (d_cons (c_callM 0 (cs := (h2.next 6).ds) F_law_any (hr'.mono (by decide)) rfl (d_cons (CE.eq (y := .lst mirL) (CN.ce (n_lst (d_cons (c_neg c_int) (d_cons c_int (d_cons c_non (d_cons c_str (d_cons c_bl (d_cons (CN.ce (n_lst (d_cons c_int d_nil) (sz (by simp)))) d_nil)))))) (sz (by simp)))) rfl) d_nil) rfl (fun R h' => ⟨_, _, _, rfl, h2, mirL, rfl, rfl, by simp [mirL], by simp [mirL], h'⟩)) d_nil))) ⟨_, _, rfl, ⟨_, _, _, rfl, rfl, rfl, mm0.1, (okR_f (andG mm0.2)).symm⟩, rfl, rfl, rfl⟩) (lamS_by (by decide +kernel)) (fun _ => rfl) (fun _ _ _ _ _ => rfl)) rfl rfl (szl (by simp)) ?_
  clear dmm mm0
  generalize h2.next 6 = h3
  show CSs _ [.mut q h3.ds, .dat od, .dat sm, .mut q2 (List.replicate 6 (D.str "number"))] _ _
  refine css_append 3 (c_wordM (ρ2 := [.mut q h3.ds, .dat od, .dat sm, .mut q2 (List.replicate 6 (D.str "number"))]) W_ Fw hbw hmw TBx hP hu hq0 ecd owns_hd .BadNumber hr (fun A o s' H' E' f' c' hr' => q_call F_twin_factor (hr'.mono (by decide)) (d_cons c_int (d_cons (c_var 2) d_nil)) ⟨_, _, rfl, ⟨_, _, rfl, rfl, f1, (okR_f (rq2 f2)).symm⟩, rfl, rfl, rfl⟩) (lamS_by (by decide +kernel)) (fun _ => rfl) (fun _ _ _ _ _ => rfl)) rfl rfl (szl (by simp)) ?_
  show CSs _ [.mut q h3.ds, .dat od, .dat sm, .mut q2 (List.replicate 7 (D.str "number"))] _ _
  refine css_append 3 (c_wordM (ρ2 := [.mut q h3.ds, .dat od, .dat sm, .mut q2 (List.replicate 7 (D.str "number"))]) W_ Fw hbw hmw TBx hP hu hq0 ecd owns_hd .BadNumber hr (fun A o s' H' E' f' c' hr' => q_call F_same_rule (hr'.mono (by decide)) (d_cons (c_var 1) (d_cons c_int (d_cons c_int d_nil))) ⟨_, _, rfl, ⟨_, _, _, rfl, o1, rfl, rfl, .inl ⟨andF (rq1 o2), rfl⟩⟩, rfl, rfl, rfl⟩) (lamS_by (by decide +kernel)) (fun _ => rfl) (fun _ _ _ _ _ => rfl)) rfl rfl (szl (by simp)) ?_
  show CSs _ [.mut q h3.ds, .dat od, .dat sm, .mut q2 (List.replicate 8 (D.str "number"))] _ _
  refine css_append 3 (c_wordM (ρ2 := [.mut q h3.ds, .dat od, .dat sm, .mut q2 (List.replicate 8 (D.str "number"))]) W_ Fw hbw hmw TBx hP hu hq0 ecd owns_hd .BadNumber hr (fun A o s' H' E' f' c' hr' => q_call F_least_kept (hr'.mono (by decide)) (d_cons (c_var 1) (d_cons c_int (d_cons c_int d_nil))) ⟨_, _, rfl, ⟨_, _, _, rfl, o1, rfl, rfl, .inl ⟨rq1 o2, rfl⟩⟩, rfl, rfl, rfl⟩) (lamS_by (by decide +kernel)) (fun _ => rfl) (fun _ _ _ _ _ => rfl)) rfl rfl (szl (by simp)) ?_
  show CSs _ [.mut q h3.ds, .dat od, .dat sm, .mut q2 (List.replicate 9 (D.str "number"))] _ _
  have dww := Hd.draw_lt (h := h3) (many := 7) (by decide)
  have ww0 := List.all_eq_true.mp wayL_all _ (getD_mem (l := wayL) (k := (h3.draw 7).toNat) (by show _ < 7; omega))
  simp only [Bool.and_eq_true, Bool.not_eq_true'] at ww0
  refine css_append 3 (c_wordM (ρ2 := [.mut q (h3.next 7).ds, .dat od, .dat sm, .mut q2 (List.replicate 9 (D.str "number"))]) W_ Fw hbw hmw TBx hP hu hq0 ecd owns_hd .BadNumber hr (fun A o s' H' E' f' c' hr' => q_call F_gap_ways (hr'.mono (by decide)) (d_cons (c_sys (cs := [2, 3]) Y_System (hr'.mono (by decide)) (c_tup (d_cons c_int (d_cons c_int d_nil)) (sz (by simp))) ok23) (d_cons (c_callM 0 (cs := (h3.next 7).ds) F_law_any (hr'.mono (by decide)) rfl (d_cons (CE.eq (y := .lst wayL) (CN.ce (n_lst (d_cons c_int (d_cons c_int (d_cons c_int (d_cons c_non (d_cons c_bl (d_cons c_str (d_cons (CN.ce (n_lst (d_cons c_int d_nil) (sz (by simp)))) d_nil))))))) (sz (by simp)))) rfl) d_nil) rfl (fun R h' => ⟨_, _, _, rfl, h3, wayL, rfl, rfl, by simp [wayL], by simp [wayL], h'⟩)) d_nil)) ⟨_, _, rfl, ⟨_, _, rfl, ok23, ww0.1, .inl ⟨ww0.2, rfl⟩⟩, rfl, rfl, rfl⟩) (lamS_by (by decide +kernel)) (fun _ => rfl) (fun _ _ _ _ _ => rfl)) rfl rfl (szl (by simp)) ?_
  clear dww ww0
  generalize h3.next 7 = h4
  refine css_freeze (i := 3) rfl ?_
  show CSs _ [.mut q h4.ds, .dat od, .dat sm, .dat (.lst (List.replicate 10 (D.str "number")))] _ _
  refine css_if (k := false) (CT.eq (t_neD (x := .lst (List.replicate 10 (D.str "number"))) (y := .lst (List.replicate 10 (D.str "number"))) hun (c_var 3) (CE.eq (CN.ce (n_repL (CN.ce (n_lst (d_cons c_str d_nil) (sz (by simp)))) c_int (by decide) (sz (by simp)))) rfl) rfl rfl (by decide +kernel) (by decide +kernel)) (by decide +kernel)) (fun h => Bool.noConfusion h) (fun _ => css_nil ?_)
  have aR : A_rule_system aSystem aBadNumber aTooMany [.int 2, .int 601, .int 1] (.error ⟨aTooMany, [("most", .int 600)]⟩) := ⟨_, _, _, rfl, rfl, rfl, rfl, .inr (.inl ⟨by decide +kernel, by decide, rfl⟩)⟩
  have aL : A_least_kept aBadNumber aTooMany [.int 2, .int 360001, .int 1] (.error ⟨aTooMany, [("most", .int 360000)]⟩) := ⟨_, _, _, rfl, rfl, rfl, rfl, .inr (.inl ⟨by decide +kernel, by decide, rfl⟩)⟩
  have aS : A_same_rule aBadNumber aTooMany [.int 2, .int 3, .int 6001] (.error ⟨aTooMany, [("most", .int 6000)]⟩) := ⟨_, _, _, rfl, rfl, rfl, rfl, .inr (.inl ⟨by decide +kernel, by decide, rfl⟩)⟩
  refine css_asgN 3 B (n_lst (ds := [manyD 600, manyD 360000]) (d_cons (c_wordM (ρ2 := [.mut q h4.ds, .dat od, .dat sm, .dat (.lst (List.replicate 10 (D.str "number")))]) W_ Fw hbw hmw TBx hP hu hq0 ecd owns_hd (.TooMany (a := 600)) hr (fun A o s' H' E' f' c' hr' => q_call F_rule_system (hr'.mono (by decide)) (d_cons c_int (d_cons c_int (d_cons c_int d_nil))) ⟨_, _, rfl, aR, rfl, rfl, rfl⟩) (lamS_by (by decide +kernel)) (fun _ => rfl) (fun _ _ _ _ _ => rfl)) (d_cons (c_call (d := manyD 360000) F_law_word_great (hr.mono (by decide)) (d_cons (c_gref mL) d_nil) (fun R h => ⟨_, _, rfl, ⟨_, _, _, _, rfl, F_least_kept.at mL (by decide), aL, .TooMany (a := 360000), rfl⟩, h⟩)) d_nil)) (sz (by simp))) fun q2 => ?_
  show CSs _ [.mut q h4.ds, .dat od, .dat sm, .mut q2 [manyD 600, manyD 360000]] _ _
  refine css_append 3 (c_wordM (ρ2 := [.mut q h4.ds, .dat od, .dat sm, .mut q2 [manyD 600, manyD 360000]]) W_ Fw hbw hmw TBx hP hu hq0 ecd owns_hd (.TooMany (a := 6000)) hr (fun A o s' H' E' f' c' hr' => q_call F_same_rule (hr'.mono (by decide)) (d_cons c_int (d_cons c_int (d_cons c_int d_nil))) ⟨_, _, rfl, aS, rfl, rfl, rfl⟩) (lamS_by (by decide +kernel)) (fun _ => rfl) (fun _ _ _ _ _ => rfl)) rfl rfl (szl (by simp)) ?_
  refine css_freeze (i := 3) rfl ?_
  show CSs _ [.mut q h4.ds, .dat od, .dat sm, .dat (.lst [manyD 600, manyD 360000, manyD 6000])] _ _
  exact css_ret (d := .bl true) (CE.eq (c_eqD (x := .lst [manyD 600, manyD 360000, manyD 6000]) (y := .lst [manyD 600, manyD 360000, manyD 6000]) hun (c_var 3) (CE.eq (CN.ce (n_lst (d_cons (c_tup (d_cons c_str (d_cons c_int d_nil)) (sz (by simp))) (d_cons (c_tup (d_cons c_str (d_cons c_int d_nil)) (sz (by simp))) (d_cons (c_tup (d_cons c_str (d_cons c_int d_nil)) (sz (by simp))) d_nil))) (sz (by simp)))) rfl) rfl rfl (by decide +kernel) (by decide +kernel)) (congrArg D.bl (by decide +kernel))) ⟨_, rfl, hR h4⟩
end KK
end

section
set_option Elab.async false
set_option linter.all false
set_option maxRecDepth 100000
set_option maxHeartbeats 4000000
namespace KK
open PySem PySem.Spec PyProof.Rows L2 VL
abbrev s_law : Stmt := topS 60
abbrev N_law : List Str := ["script", "hand", "told", "turn", "modulus", "factor", "share"]
theorem sc_law : FnScope N_law ["script"] (defScope s_law) := ⟨rfl, rfl, rfl, by decide +kernel, rfl, by decide +kernel, by decide +kernel⟩
variable {P : Program} {w : World} {K : PySem.W.Frag} {mg : Str → Option Value} {base : Heap} {f aCoinError aBadNumber aNoSystem aBadCoins aTooMany aSystem : Addr} {fd : FuncData}
def told77 : D := .lst [.lst [.int 3, .int 5, .int 7], .int 3, .tup [.bl true, .bl false], .int 3]
theorem told77_ok : (eqD told77 = true ∧ (pyd told77).showable = true) ∧ (pyd told77).depth ≤ 64 ∧ (reprD told77).length ≤ 1000 := by decide +kernel
theorem nd571 : (rangeI 1 (14 - 1)).filter (irrB (ruleB 5 ((7 : Nat) : Int) 1)) = [3, 5, 7] := by decide +kernel
theorem fac77 : gapF 5 7 = 3 ∧ ruleB 3 10 1 4 = true ∧ ruleB 3 10 1 (10 - 4) = false ∧ twinI 5 7 = 3 ∧ ruleQ (.int 5) (.int 7) (.int 1) = true ∧ (ruleQ (.int 3) (.int 10) (.int 1) && within (.int 4) 0 10) = true := by decide +kernel
theorem ok_law (T : Blt mg) (F_law_hand : FnN P w K mg base 2 "_law_hand" (A_law_hand 77)) (F_law_draw : FnV P w K mg base 1 "_law_draw" (mutS A_law_draw)) (F_law_any : FnV P w K mg base 2 "_law_any" (mutS A_law_any)) (F_law_great : FnV P w K mg base 2 "_law_great" (mutS A_law_great)) (F_law_by_divisors : FnV P w K mg base 2 "_law_by_divisors" (detS A_law_by_divisors)) (F_law_rule_right : FnV P w K mg base 8 "_law_rule_right" (mutS A_law_rule_right)) (F_law_numbers_right : FnV P w K mg base 5 "_law_numbers_right" (mutS A_law_numbers_right)) (F_law_twin_right : FnV P w K mg base 5 "_law_twin_right" (mutS A_law_twin_right)) (F_law_same_right : FnV P w K mg base 5 "_law_same_right" (mutS A_law_same_right)) (F_law_ways_right : FnV P w K mg base 9 "_law_ways_right" (mutS A_law_ways_right)) (F_law_refused_right : FnV P w K mg base 12 "_law_refused_right" (mutS A_hand0)) (F_rule_system : FnV P w K mg base 7 "rule_system" (detS (A_rule_system aSystem aBadNumber aTooMany))) (F_rule_gaps : FnV P w K mg base 4 "rule_gaps" (detS (A_rule_gaps aBadNumber))) (F_rule_mirror : FnV P w K mg base 4 "rule_mirror" (detS (A_rule_mirror aBadNumber))) (F_twin_factor : FnV P w K mg base 4 "twin_factor" (detS (A_twin_factor aBadNumber))) (F_needed : FnV P w K mg base 2 "needed" (detS (A_needed aSystem))) (Fu : Fun K "law" "law" s_law f fd) (hb : Binds K fd ["script"] []) (hm : mg "law" = some (.ref f)) : VL.FnOk P w K mg base (L2N.CX P w) 13 f fd ["script"] (spV K (detS A_script)) := by
  refine fn_law (k := 12) Fu sc_law (fun ds r ⟨ns, e, _⟩ => by subst e; rfl) (hb := hb) (hm := hm) fun cdv A' outer s H E hr B ds r ⟨ns, e, hl, er⟩ => ?_
  subst e er
  have hun : (cx P w K mg base N_law "law" s_law f cdv A' outer s H E).A.units + 70 < cLine := by have := hr.un; omega
  obtain ⟨t1, t2, t3, t4, t5, t6⟩ := fac77
  obtain ⟨⟨s1, s2⟩, s3, s4⟩ := told77_ok
  have S57 : Sg (ruleB 5 ((7 : Nat) : Int) 1) 7 := rule_sg (by decide) (by decide)
  have hok := sg_ok S57 (by decide)
  have hnd : nd (sgC (ruleB 5 ((7 : Nat) : Int) 1) 7) = [3, 5, 7] := (sg_needed S57 (by decide) (b := 14) (by decide)).trans nd571
  refine css_asgN 1 B (n_call F_law_hand (hr.mono (by decide)) (d_cons (c_var 0) d_nil) ⟨ns, rfl, hl, rfl⟩) (fun q => ?_)
  have a1 : A_rule_system aSystem aBadNumber aTooMany [.int 5, .int ((7 : Nat) : Int), .int 1] (.ok (sysD aSystem (sgC (ruleB 5 ((7 : Nat) : Int) 1) 7))) := ⟨_, _, _, rfl, rfl, rfl, rfl, .inr (.inr ⟨5, 1, 7, rfl, rfl, rfl, ⟨by decide, ms_le (by decide)⟩, ⟨by decide, by decide⟩, ⟨by decide, ms_le (by decide)⟩, rfl⟩)⟩
  have a2 : A_rule_gaps aBadNumber [.int 5, .int 7] (.ok (.int 3)) := ⟨_, _, rfl, rfl, rfl, by rw [okR_t t5]; show _ = Except.ok (D.int (gapF 5 7)); rw [t1]⟩
  have a3 : A_rule_mirror aBadNumber [.int 3, .int 10, .int 4] (.ok (.tup [.bl true, .bl false])) := ⟨_, _, _, rfl, rfl, rfl, rfl, (Eq.trans (by rw [← t2, ← t3]) (okR_t (r := .ok (.tup [.bl (ruleB 3 10 1 4), .bl (ruleB 3 10 1 (10 - 4))])) (a := aBadNumber) t6).symm)⟩
  have a4 : A_twin_factor aBadNumber [.int 5, .int 7] (.ok (.int 3)) := ⟨_, _, rfl, rfl, rfl, by rw [okR_t t5]; show _ = Except.ok (D.int (twinI 5 7)); rw [t4]⟩
  refine css_asg 2 B (d := told77) (CE.eq (CN.ce (n_lst (d_cons (CE.eq (y := .lst [.int 3, .int 5, .int 7]) (CN.ce (n_listT (ds := [.int 3, .int 5, .int 7]) T.list (CE.eq (c_call F_needed (hr.mono (by decide)) (d_cons (c_call (d := sysD aSystem (sgC (ruleB 5 ((7 : Nat) : Int) 1) 7)) F_rule_system (hr.mono (by decide)) (d_cons c_int (d_cons c_int (d_cons c_int d_nil))) (fun R h => ⟨_, _, rfl, a1, h⟩)) d_nil) (fun R h => ⟨_, _, rfl, ⟨_, rfl, rfl⟩, h⟩)) (by rw [hnd]; rfl)))) rfl) (d_cons (c_call F_rule_gaps (hr.mono (by decide)) (d_cons c_int (d_cons c_int d_nil)) (fun R h => ⟨_, _, rfl, a2, h⟩)) (d_cons (c_call F_rule_mirror (hr.mono (by decide)) (d_cons c_int (d_cons c_int (d_cons c_int d_nil))) (fun R h => ⟨_, _, rfl, a3, h⟩)) (d_cons (c_call F_twin_factor (hr.mono (by decide)) (d_cons c_int (d_cons c_int d_nil)) (fun R h => ⟨_, _, rfl, a4, h⟩)) d_nil)))) (sz (by simp)))) rfl) ?_
  show CSs _ [.dat (.frl (ns.map D.int)), .mut q (Hd.new _ ns).ds, .dat told77, .un, .un, .un, .un] _ _
  generalize Hd.new _ ns = h
  refine css_if (k := false) (t_neS1 (c_repr (d := told77) hr.gd hun T.repr (c_var 2) s1 s2 s3 (Nat.le_trans s4 (by decide))) (c_repr (d := told77) hr.gd hun T.repr (CN.ce (n_lst (d_cons (CN.ce (n_lst (d_cons c_int (d_cons c_int (d_cons c_int d_nil))) (sz (by simp)))) (d_cons c_int (d_cons (c_tup (d_cons c_bl (d_cons c_bl d_nil)) (sz (by simp))) (d_cons c_int d_nil)))) (sz (by simp)))) s1 s2 s3 (Nat.le_trans s4 (by decide)))) (fun h => Bool.noConfusion h) (fun _ => css_nil ?_)
  refine css_for (T := .nm 3) B (ci_range1 T.range c_int (by decide)) (tg_nm 3 B.nd) (fun i ρ => ∃ (h : Hd) (a b c d : Sl), ρ = [.dat (.frl (ns.map D.int)), .mut q h.ds, .dat told77, a, b, c, d]) ⟨h, _, _, _, _, rfl⟩ (fun i d ρ hd hJ => ?_) (fun ρ hJ => ?_)
  · obtain ⟨_, rfl⟩ := rangeD_inv hd
    obtain ⟨h, a, b, c, d, rfl⟩ := hJ
    refine ⟨_, .nm, ?_⟩
    have d2 := Hd.draw_lt (h := h) (many := 3) (by decide)
    obtain ⟨v, hv⟩ : ∃ p, ([6, 30, 59] : List Int)[(h.draw 3).toNat]? = some p := ⟨_, List.getElem?_eq_getElem (by show _ < 3; omega)⟩
    have hvd : (([6, 30, 59] : List Int).map D.int).getD (h.draw 3).toNat .non = .int v := by rw [List.getD_eq_getElem?_getD, List.getElem?_map, hv]; rfl
    have hvb : 6 ≤ v ∧ v ≤ 59 := by
      have := List.mem_of_getElem? hv
      simp only [List.mem_cons, List.not_mem_nil, or_false] at this
      omega
    have d3 := Hd.draw_lt (h := h.next 3) (many := v) (by omega)
    obtain ⟨m, hmo⟩ := nat_of (show 0 ≤ 2 + (h.next 3).draw v by omega)
    have hm2 : 2 ≤ m ∧ m ≤ 60 := by omega
    refine css_asg 4 B (d := .int (m : Nat)) (CE.eq (c_add c_int (c_callM 1 F_law_draw (hr.mono (by decide)) rfl (d_cons (CE.eq (c_callM 1 F_law_any (hr.mono (by decide)) rfl (d_cons (CE.eq (y := .lst (([6, 30, 59] : List Int).map D.int)) (CN.ce (n_lst (d_cons c_int (d_cons c_int (d_cons c_int d_nil))) (sz (by simp)))) rfl) d_nil) rfl (fun R h' => ⟨_, _, _, rfl, h, _, rfl, rfl, by simp, by simp, h'⟩)) hvd) d_nil) rfl (fun R h' => ⟨_, _, _, rfl, h.next 3, v, rfl, rfl, by omega, by omega, h'⟩))) (congrArg D.int hmo)) ?_
    clear hmo d3 hvd hv d2
    generalize (h.next 3).next v = h1
    show CSs _ [.dat (.frl (ns.map D.int)), .mut q h1.ds, .dat told77, .dat (.int (0 + (i : Nat))), .dat (.int (m : Nat)), c, d] _ _
    have d4 := Hd.draw_lt (h := h1) (many := 2 * (m : Int)) (by omega)
    obtain ⟨fa, hfa⟩ : ∃ fa, fa = 1 + h1.draw (2 * (m : Int)) := ⟨_, rfl⟩
    have d5 := Hd.draw_lt (h := h1.next (2 * (m : Int))) (many := (m : Int)) (by omega)
    generalize hy : (h1.next (2 * (m : Int))).draw (m : Int) = y at *
    have d6 := Hd.draw_lt (h := (h1.next (2 * (m : Int))).next (m : Int)) (many := 6) (by decide)
    obtain ⟨sh, hsh⟩ : ∃ p, ([1, 1, 1, 2, 3, 1 + y] : List Int)[(((h1.next (2 * (m : Int))).next (m : Int)).draw 6).toNat]? = some p := ⟨_, List.getElem?_eq_getElem (by show _ < 6; omega)⟩
    have hshd : (([1, 1, 1, 2, 3, 1 + y] : List Int).map D.int).getD (((h1.next (2 * (m : Int))).next (m : Int)).draw 6).toNat .non = .int sh := by rw [List.getD_eq_getElem?_getD, List.getElem?_map, hsh]; rfl
    have hsb : 1 ≤ sh ∧ sh ≤ 60 := by
      have := List.mem_of_getElem? hsh
      simp only [List.mem_cons, List.not_mem_nil, or_false] at this
      omega
    refine css_par 5 6 B (x := .int fa) (y := .int sh) (d_cons (CE.eq (c_add c_int (c_callM 1 F_law_draw (hr.mono (by decide)) rfl (d_cons (c_mul c_int (c_var 4) (.inl ⟨by decide, by decide⟩)) d_nil) rfl (fun R h' => ⟨_, _, _, rfl, h1, 2 * (m : Int), rfl, rfl, by omega, by omega, h'⟩))) (congrArg D.int hfa.symm)) (d_cons (CE.eq (c_callM 1 F_law_any (hr.mono (by decide)) rfl (d_cons (CE.eq (y := .lst (([1, 1, 1, 2, 3, 1 + y] : List Int).map D.int)) (CN.ce (n_lst (d_cons c_int (d_cons c_int (d_cons c_int (d_cons c_int (d_cons c_int (d_cons (c_add c_int (c_callM 1 F_law_draw (hr.mono (by decide)) rfl (d_cons (c_var 4) d_nil) rfl (fun R h' => ⟨_, _, _, rfl, h1.next (2 * (m : Int)), (m : Int), rfl, rfl, by omega, by omega, h'⟩))) d_nil)))))) (sz (by simp)))) (by rw [hy]; rfl)) d_nil) rfl (fun R h' => ⟨_, _, _, rfl, (h1.next (2 * (m : Int))).next (m : Int), _, rfl, rfl, by simp, by simp, h'⟩)) hshd) d_nil)) ?_
    have hfb : 1 ≤ fa ∧ fa ≤ 120 := by omega
    clear hshd hsh hfa d4 d5 d6 hy
    generalize ((h1.next (2 * (m : Int))).next (m : Int)).next _ = h2
    show CSs _ [.dat (.frl (ns.map D.int)), .mut q h2.ds, .dat told77, .dat (.int (0 + (i : Nat))), .dat (.int (m : Nat)), .dat (.int fa), .dat (.int sh)] _ _
    have ri : RuleIn fa (m : Nat) sh := ⟨⟨hfb.1, by omega⟩, ⟨by omega, by omega⟩, hsb.1, by omega⟩
    have ri1 : RuleIn fa (m : Nat) 1 := ⟨⟨hfb.1, by omega⟩, ⟨by omega, by omega⟩, by decide, by decide⟩
    refine css_ifQ (qt_w (qw_or (qt_not (qt_val (q_hand 1 F_law_rule_right (hr.mono (by decide)) rfl (d_cons (c_var 5) (d_cons (c_var 4) (d_cons (c_var 6) d_nil))) rfl ⟨q, h2.ds, [.int fa, .int (m : Nat), .int sh], rfl, h2, fa, sh, m, rfl, rfl, ⟨hfb.1, by omega⟩, hm2, ⟨hsb.1, by omega⟩, fun h3 => ⟨_, _, rfl, rfl, true, rfl, fun z => (by cases z), fun _ => ?_⟩⟩)))))
    refine qw_or1 (qt_not (qt_val (q_hand 1 F_law_numbers_right (hr.mono (by decide)) rfl (d_cons (c_var 5) (d_cons (c_var 4) (d_cons (c_var 6) d_nil))) rfl ⟨q, h3.ds, [.int fa, .int (m : Nat), .int sh], rfl, h3, fa, (m : Nat), sh, rfl, rfl, ri, fun h4 => ⟨_, _, rfl, rfl, true, rfl, fun z => (by cases z), fun _ => ?_⟩⟩)))
    refine css_nil ?_
    refine css_ifQ (qt_w (qw_or (qt_not (qt_val (q_hand 1 F_law_twin_right (hr.mono (by decide)) rfl (d_cons (c_var 5) (d_cons (c_var 4) d_nil)) rfl ⟨q, h4.ds, [.int fa, .int (m : Nat)], rfl, h4, fa, (m : Nat), rfl, rfl, ri1, fun h5 => ⟨_, _, rfl, rfl, true, rfl, fun z => (by cases z), fun _ => ?_⟩⟩)))))
    refine qw_or1 (qt_not (qt_val (q_hand 1 F_law_same_right (hr.mono (by decide)) rfl (d_cons (c_var 4) d_nil) rfl ⟨q, h5.ds, [.int (m : Nat)], rfl, h5, m, rfl, rfl, hm2, fun h6 => ⟨_, _, rfl, rfl, true, rfl, fun z => (by cases z), fun _ => ?_⟩⟩)))
    exact css_nil (css_nil ⟨h6, _, _, _, _, rfl⟩)
  · obtain ⟨h, a, b, c, d, rfl⟩ := hJ
    refine css_par 5 4 B (d_cons (c_callM 1 F_law_great (hr.mono (by decide)) rfl d_nil rfl (fun R h' => ⟨_, _, _, rfl, h, rfl, rfl, h'⟩)) (d_cons (c_callM 1 F_law_great (hr.mono (by decide)) rfl d_nil rfl (fun R h' => ⟨_, _, _, rfl, greatH h, rfl, rfl, h'⟩)) d_nil)) ?_
    obtain ⟨g1, g2⟩ := great_in h
    obtain ⟨g3, g4⟩ := great_in (greatH h)
    generalize greatF (greatH h) = m at *
    generalize greatF h = fa at *
    generalize greatH (greatH h) = h1
    show CSs _ [.dat (.frl (ns.map D.int)), .mut q h1.ds, .dat told77, a, .dat (.int m), .dat (.int fa), d] _ _
    have ri1 : RuleIn fa m 1 := ⟨⟨by omega, by omega⟩, ⟨by omega, by omega⟩, by decide, by decide⟩
    refine css_ifQ (qt_w (qw_or (qt_not (qt_val (q_hand 1 F_law_numbers_right (hr.mono (by decide)) rfl (d_cons (c_var 5) (d_cons (c_var 4) (d_cons c_int d_nil))) rfl ⟨q, h1.ds, [.int fa, .int m, .int 1], rfl, h1, fa, m, 1, rfl, rfl, ri1, fun h2 => ⟨_, _, rfl, rfl, true, rfl, fun z => (by cases z), fun _ => ?_⟩⟩)))))
    refine qw_or1 (qt_not (qt_val (q_hand 1 F_law_twin_right (hr.mono (by decide)) rfl (d_cons (c_var 5) (d_cons (c_var 4) d_nil)) rfl ⟨q, h2.ds, [.int fa, .int m], rfl, h2, fa, m, rfl, rfl, ri1, fun h3 => ⟨_, _, rfl, rfl, true, rfl, fun z => (by cases z), fun _ => ?_⟩⟩)))
    refine css_nil ?_
    show CSs _ [.dat (.frl (ns.map D.int)), .mut q h3.ds, .dat told77, a, .dat (.int m), .dat (.int fa), d] _ _
    have rg : A_rule_gaps aBadNumber [.int fa, .int m] (.ok (.int (gapF fa m))) := ⟨_, _, rfl, rfl, rfl, (okR_t ri1.q).symm⟩
    refine css_if (k := false) (CT.eq (t_neI (i := gapF fa m) (j := gapF2 fa m) (c_call F_rule_gaps (hr.mono (by decide)) (d_cons (c_var 5) (d_cons (c_var 4) d_nil)) (fun R h => ⟨_, _, rfl, rg, h⟩)) (c_call F_law_by_divisors (hr.mono (by decide)) (d_cons (c_var 5) (d_cons (c_var 4) d_nil)) (fun R h => ⟨_, _, rfl, ⟨fa, m, rfl, by omega, rfl⟩, h⟩))) (by rw [gapF_eq (by omega), decide_eq_true rfl]; rfl)) (fun h => Bool.noConfusion h) (fun _ => css_nil ?_)
    have d1 := Hd.draw_lt (h := h3) (many := 24) (by decide)
    obtain ⟨n, hn⟩ := nat_of (show 0 ≤ 2 + h3.draw 24 by omega)
    refine css_retD (qe_and (q_hand 1 F_law_ways_right (hr.mono (by decide)) rfl (d_cons (CE.eq (y := .int (n : Nat)) (c_add c_int (c_callM 1 F_law_draw (hr.mono (by decide)) rfl (d_cons c_int d_nil) rfl (fun R h' => ⟨_, _, _, rfl, h3, 24, rfl, rfl, by decide, by decide, h'⟩))) (congrArg D.int hn)) d_nil) rfl ⟨q, _, [.int (n : Nat)], rfl, h3.next 24, n, rfl, rfl, ⟨by omega, by omega⟩, fun h4 => ⟨_, _, rfl, rfl, true, rfl, fun z => (by cases z), fun _ => ?_⟩⟩))
    exact qe_one (q_hand 1 F_law_refused_right (hr.mono (by decide)) rfl d_nil rfl ⟨q, h4.ds, [], rfl, h4, rfl, rfl, fun h5 => ⟨_, _, rfl, rfl, rfl⟩⟩)
end KK
end

section
set_option Elab.async false
set_option linter.all false
set_option maxRecDepth 100000
set_option maxHeartbeats 4000000
namespace KK
open PySem PySem.Spec PyProof.Rows L2 VL
abbrev s_System_init : Stmt := match topS 18 with
  | .ClassDef _ _ _ b .. => b.getD 0 (.Pass ⟨0, 0, 0, 0⟩)
  | s => s
abbrev N_System_init : List Str := ["self", "coins", "needed_ones", "table"]
theorem sc_System_init : FnScope N_System_init ["self", "coins"] (defScope s_System_init) := ⟨rfl, rfl, rfl, by decide +kernel, rfl, by decide +kernel, by decide +kernel⟩
variable {P : Program} {w : World} {K : PySem.W.Frag} {mg : Str → Option Value} {base : Heap} {f aCoinError aBadNumber aNoSystem aBadCoins aTooMany aSystem : Addr} {fd : FuncData}
theorem noInsL_o : ∀ ns : List (Option Int), noInsL (ns.map oD) = true
  | [] => rfl
  | n :: ns => by
    rw [List.map_cons]
    unfold noInsL
    rw [noInsL_o ns]
    cases n <;> rfl
theorem ok_System_init (T : Blt mg) (S_System : SysC K mg aSystem) (F_check_coins : FnV P w K mg base 3 "check_coins" (detS A_check_coins)) (F_built : FnV P w K mg base 4 "built" (detS A_built)) (Fu : Fun K "__init__" "System.__init__" s_System_init f fd) : VL.FnOk P w K mg base (L2N.CX P w) 5 f fd ["self", "coins"] (spIni K aSystem A_System_init) := by
  refine fn_init (k := 4) Fu sc_System_init (fun ds fs ⟨cs, e, _⟩ => by subst e; rfl) fun cdv A' outer s H E hr B x dx ds fs ⟨cs, e, ho, ef⟩ => ?_
  subst e ef
  obtain ⟨m, rest, e1, hm1, hm2, hrl⟩ := sort_head ho
  refine csi_expr takes_cx (c_call F_check_coins (hr.mono (by decide)) (d_cons (c_var 1) d_nil) (fun R h => ⟨_, _, rfl, ⟨cs, rfl, ho, rfl⟩, h⟩)) rfl ?_
  have nT : ∀ l : List Int, noIns (.tup (l.map D.int)) = true := fun l => noInsL_ints l
  have nL : ∀ l : List Int, noIns (.lst (l.map D.int)) = true := fun l => noInsL_ints l
  refine csi_fld S_System.o.i.cl S_System.n1 (c_tupL T.tuple (CN.ce (n_sortT T.sorted (c_var 1)))) rfl (nT _) rfl (by show (noIns (.adr x) && (noIns (.tup _) && true)) = true; rw [nT]; rfl) (k := ?_)
  rw [List.nil_append]
  refine csi_tup (T := .tp [.nm 2, .nm 3]) (c_call (d := .tup [.lst ((builtL (sortI cs)).1.map D.int), .lst ((builtL (sortI cs)).2.map oD)]) F_built (hr.mono (by decide)) (d_cons (CN.ce (n_listT T.list (c_fld S_System.o.i.cl S_System.n1 (c_var 0)))) d_nil) (fun R h => ⟨_, _, rfl, ⟨m, rest, by rw [e1], hm1, by omega, by omega, by rw [e1]⟩, h⟩)) (tg_tp rfl (tgs_cons (tg_nm 2 B.nd) (tgs_cons (tg_nm 3 B.nd) tgs_nil))) (.tp (.cons .nm (.cons .nm .nil))) rfl rfl (by decide) rfl rfl ?_
  refine csi_fld S_System.o.i.cl S_System.n2 (c_tupL T.tuple (c_var 2)) rfl (nT _) (by show (noIns (.tup _) && true) = true; rw [nT]; rfl) (by show (noIns (.adr x) && (noIns (.tup _) && (noIns (.lst _) && (noIns (.lst _) && true)))) = true; rw [nT, nL, show noIns (.lst _) = true from noInsL_o _]; rfl) (hlen := by simp) (k := ?_)
  refine csi_fld S_System.o.i.cl S_System.n3 (c_tupL T.tuple (c_var 3)) rfl (noInsL_o _) (by show (noIns (.tup _) && (noIns (.tup _) && true)) = true; rw [nT, nT]; rfl) (by show (noIns (.adr x) && (noIns (.tup _) && (noIns (.lst _) && (noIns (.lst _) && true)))) = true; rw [nT, nL, show noIns (.lst _) = true from noInsL_o _]; rfl) (hlen := by simp) (k := ?_)
  exact csi_nil rfl
end KK
end

section
set_option Elab.async false
set_option linter.all false
set_option maxRecDepth 100000
set_option maxHeartbeats 4000000
namespace KK
open PySem PySem.Spec PyProof.Rows L2 VL VLH LamX
abbrev s_init_BadCoins : Stmt := match topS 9 with
  | .ClassDef _ _ _ (b :: _) .. => b
  | s => s
theorem sc_init_BadCoins : FnScope (["self", "at"] : List Str) (["self", "at"] : List Str) (defScope s_init_BadCoins) := ⟨rfl, rfl, rfl, by decide +kernel, rfl, by decide +kernel, by decide +kernel⟩
abbrev s_init_TooMany : Stmt := match topS 10 with
  | .ClassDef _ _ _ (b :: _) .. => b
  | s => s
theorem sc_init_TooMany : FnScope (["self", "most"] : List Str) (["self", "most"] : List Str) (defScope s_init_TooMany) := ⟨rfl, rfl, rfl, by decide +kernel, rfl, by decide +kernel, by decide +kernel⟩
theorem all_mk {l : PySem.W.OpenLaw} {w : World} {K : PySem.W.Frag} {h : Heap} {mg : Str → Option Value} {fa : Addr} (X : K.In h) (G : h.Ns mainGlobals mg) (hfa : mg "law" = some (.ref fa)) (mM_MOST_COIN : ∃ t, mg "MOST_COIN" = some (.int 1000000 t)) (mM_MOST_SIZE : ∃ t, mg "MOST_SIZE" = some (.int c_MOST_SIZE t))
    {f1 : Addr} {od1 an1 : Option Addr} {sl1 : Array (Option Value)} {oc1 kV1 dc1 pm1 cd1 ct1 : Value}
    {f2 : Addr} {od2 an2 : Option Addr} {sl2 : Array (Option Value)} {oc2 kV2 dc2 pm2 cd2 ct2 : Value}
    {f3 : Addr} {od3 an3 : Option Addr} {sl3 : Array (Option Value)} {oc3 kV3 dc3 pm3 cd3 ct3 : Value}
    {f4 : Addr} {od4 an4 : Option Addr} {sl4 : Array (Option Value)} {oc4 kV4 dc4 pm4 cd4 ct4 : Value}
    {f15 : Addr} {od15 an15 : Option Addr} {sl15 : Array (Option Value)} {oc15 kV15 dc15 pm15 cd15 ct15 : Value}
    {f16 : Addr} {od16 an16 : Option Addr} {sl16 : Array (Option Value)} {oc16 kV16 dc16 pm16 cd16 ct16 : Value}
    {f17 : Addr} {od17 an17 : Option Addr} {sl17 : Array (Option Value)} {oc17 kV17 dc17 pm17 cd17 ct17 : Value}
    {f19 : Addr} {od19 an19 : Option Addr} {sl19 : Array (Option Value)} {oc19 kV19 dc19 pm19 cd19 ct19 : Value}
    {f20 : Addr} {od20 an20 : Option Addr} {sl20 : Array (Option Value)} {oc20 kV20 dc20 pm20 cd20 ct20 : Value}
    {f21 : Addr} {od21 an21 : Option Addr} {sl21 : Array (Option Value)} {oc21 kV21 dc21 pm21 cd21 ct21 : Value}
    {f22 : Addr} {od22 an22 : Option Addr} {sl22 : Array (Option Value)} {oc22 kV22 dc22 pm22 cd22 ct22 : Value}
    {f23 : Addr} {od23 an23 : Option Addr} {sl23 : Array (Option Value)} {oc23 kV23 dc23 pm23 cd23 ct23 : Value}
    {f25 : Addr} {od25 an25 : Option Addr} {sl25 : Array (Option Value)} {oc25 kV25 dc25 pm25 cd25 ct25 : Value}
    {f26 : Addr} {od26 an26 : Option Addr} {sl26 : Array (Option Value)} {oc26 kV26 dc26 pm26 cd26 ct26 : Value}
    {f28 : Addr} {od28 an28 : Option Addr} {sl28 : Array (Option Value)} {oc28 kV28 dc28 pm28 cd28 ct28 : Value}
    {f32 : Addr} {od32 an32 : Option Addr} {sl32 : Array (Option Value)} {oc32 kV32 dc32 pm32 cd32 ct32 : Value}
    {f33 : Addr} {od33 an33 : Option Addr} {sl33 : Array (Option Value)} {oc33 kV33 dc33 pm33 cd33 ct33 : Value}
    {f34 : Addr} {od34 an34 : Option Addr} {sl34 : Array (Option Value)} {oc34 kV34 dc34 pm34 cd34 ct34 : Value}
    {f35 : Addr} {od35 an35 : Option Addr} {sl35 : Array (Option Value)} {oc35 kV35 dc35 pm35 cd35 ct35 : Value}
    {f36 : Addr} {od36 an36 : Option Addr} {sl36 : Array (Option Value)} {oc36 kV36 dc36 pm36 cd36 ct36 : Value}
    {f37 : Addr} {od37 an37 : Option Addr} {sl37 : Array (Option Value)} {oc37 kV37 dc37 pm37 cd37 ct37 : Value}
    {f38 : Addr} {od38 an38 : Option Addr} {sl38 : Array (Option Value)} {oc38 kV38 dc38 pm38 cd38 ct38 : Value}
    {f39 : Addr} {od39 an39 : Option Addr} {sl39 : Array (Option Value)} {oc39 kV39 dc39 pm39 cd39 ct39 : Value}
    {f40 : Addr} {od40 an40 : Option Addr} {sl40 : Array (Option Value)} {oc40 kV40 dc40 pm40 cd40 ct40 : Value}
    {f42 : Addr} {od42 an42 : Option Addr} {sl42 : Array (Option Value)} {oc42 kV42 dc42 pm42 cd42 ct42 : Value}
    {f43 : Addr} {od43 an43 : Option Addr} {sl43 : Array (Option Value)} {oc43 kV43 dc43 pm43 cd43 ct43 : Value}
    {f44 : Addr} {od44 an44 : Option Addr} {sl44 : Array (Option Value)} {oc44 kV44 dc44 pm44 cd44 ct44 : Value}
    {f45 : Addr} {od45 an45 : Option Addr} {sl45 : Array (Option Value)} {oc45 kV45 dc45 pm45 cd45 ct45 : Value}
    {f46 : Addr} {od46 an46 : Option Addr} {sl46 : Array (Option Value)} {oc46 kV46 dc46 pm46 cd46 ct46 : Value}
    {f47 : Addr} {od47 an47 : Option Addr} {sl47 : Array (Option Value)} {oc47 kV47 dc47 pm47 cd47 ct47 : Value}
    {f48 : Addr} {od48 an48 : Option Addr} {sl48 : Array (Option Value)} {oc48 kV48 dc48 pm48 cd48 ct48 : Value}
    {f49 : Addr} {od49 an49 : Option Addr} {sl49 : Array (Option Value)} {oc49 kV49 dc49 pm49 cd49 ct49 : Value}
    {f50 : Addr} {od50 an50 : Option Addr} {sl50 : Array (Option Value)} {oc50 kV50 dc50 pm50 cd50 ct50 : Value}
    {f51 : Addr} {od51 an51 : Option Addr} {sl51 : Array (Option Value)} {oc51 kV51 dc51 pm51 cd51 ct51 : Value}
    {f52 : Addr} {od52 an52 : Option Addr} {sl52 : Array (Option Value)} {oc52 kV52 dc52 pm52 cd52 ct52 : Value}
    {f53 : Addr} {od53 an53 : Option Addr} {sl53 : Array (Option Value)} {oc53 kV53 dc53 pm53 cd53 ct53 : Value}
    {f54 : Addr} {od54 an54 : Option Addr} {sl54 : Array (Option Value)} {oc54 kV54 dc54 pm54 cd54 ct54 : Value}
    {f55 : Addr} {od55 an55 : Option Addr} {sl55 : Array (Option Value)} {oc55 kV55 dc55 pm55 cd55 ct55 : Value}
    {f56 : Addr} {od56 an56 : Option Addr} {sl56 : Array (Option Value)} {oc56 kV56 dc56 pm56 cd56 ct56 : Value}
    {f57 : Addr} {od57 an57 : Option Addr} {sl57 : Array (Option Value)} {oc57 kV57 dc57 pm57  ct57 : Value} {cT57 Pt57 : Addr}
    {f58 : Addr} {od58 an58 : Option Addr} {sl58 : Array (Option Value)} {oc58 kV58 dc58 pm58  ct58 : Value} {cT58 Pt58 : Addr}
    {f59 : Addr} {od59 an59 : Option Addr} {sl59 : Array (Option Value)} {oc59 kV59 dc59 pm59  ct59 : Value} {cT59 Pt59 : Addr}
    {f60 : Addr} {od60 an60 : Option Addr} {sl60 : Array (Option Value)} {oc60 kV60 dc60 pm60 cd60 ct60 : Value}
    {aCoinError : Addr}
    {aBadNumber : Addr}
    {aNoSystem : Addr}
    {aBadCoins : Addr}
    {fIBadCoins N0BadCoins : Addr} {nmBadCoins qnBadCoins : Str} {bsBadCoins bmBadCoins : List Value} {snBadCoins : List Str} {subBadCoins : List Value} {abBadCoins : Bool} {colBadCoins : Option Bool} {ddBadCoins : Option Addr} {m0BadCoins m1BadCoins m2BadCoins m3BadCoins m5BadCoins : Option Value} {odIBadCoins anIBadCoins : Option Addr} {slIBadCoins : Array (Option Value)} {ocIBadCoins kVIBadCoins dcIBadCoins pmIBadCoins cdIBadCoins ctIBadCoins : Value}
    {aTooMany : Addr}
    {fITooMany N0TooMany : Addr} {nmTooMany qnTooMany : Str} {bsTooMany bmTooMany : List Value} {snTooMany : List Str} {subTooMany : List Value} {abTooMany : Bool} {colTooMany : Option Bool} {ddTooMany : Option Addr} {m0TooMany m1TooMany m2TooMany m3TooMany m5TooMany : Option Value} {odITooMany anITooMany : Option Addr} {slITooMany : Array (Option Value)} {ocITooMany kVITooMany dcITooMany pmITooMany cdITooMany ctITooMany : Value}
    {aSystem fISystem : Addr} {odISystem anISystem : Option Addr} {slISystem : Array (Option Value)} {ocISystem kVISystem dcISystem pmISystem cdISystem ctISystem : Value}
    {fQSystem : Addr} {odQSystem anQSystem : Option Addr} {slQSystem : Array (Option Value)} {ocQSystem kVQSystem dcQSystem pmQSystem cdQSystem ctQSystem : Value}
    (a1 : PySem.W.nsIn K mainGlobals "is_integer" = some (some (.ref f1)))
    (l1 : K.lookup f1 = some ⟨oc1, od1, .func (PySem.W.fnOf "is_integer" "is_integer" (defArgs (topS 1)) (defBody (topS 1)) (defScope (topS 1)) .none kV1 dc1 pm1 an1 cd1 ct1), sl1⟩)
    (c1 : PySem.W.codeIn K cd1 "is_integer" = true)
    (k1 : PySem.W.keepIn K (.ref f1) = true)
    (a2 : PySem.W.nsIn K mainGlobals "is_within" = some (some (.ref f2)))
    (l2 : K.lookup f2 = some ⟨oc2, od2, .func (PySem.W.fnOf "is_within" "is_within" (defArgs (topS 2)) (defBody (topS 2)) (defScope (topS 2)) .none kV2 dc2 pm2 an2 cd2 ct2), sl2⟩)
    (c2 : PySem.W.codeIn K cd2 "is_within" = true)
    (k2 : PySem.W.keepIn K (.ref f2) = true)
    (a3 : PySem.W.nsIn K mainGlobals "common" = some (some (.ref f3)))
    (l3 : K.lookup f3 = some ⟨oc3, od3, .func (PySem.W.fnOf "common" "common" (defArgs (topS 3)) (defBody (topS 3)) (defScope (topS 3)) .none kV3 dc3 pm3 an3 cd3 ct3), sl3⟩)
    (c3 : PySem.W.codeIn K cd3 "common" = true)
    (k3 : PySem.W.keepIn K (.ref f3) = true)
    (a4 : PySem.W.nsIn K mainGlobals "common_of" = some (some (.ref f4)))
    (l4 : K.lookup f4 = some ⟨oc4, od4, .func (PySem.W.fnOf "common_of" "common_of" (defArgs (topS 4)) (defBody (topS 4)) (defScope (topS 4)) .none kV4 dc4 pm4 an4 cd4 ct4), sl4⟩)
    (c4 : PySem.W.codeIn K cd4 "common_of" = true)
    (k4 : PySem.W.keepIn K (.ref f4) = true)
    (a15 : PySem.W.nsIn K mainGlobals "round_up" = some (some (.ref f15)))
    (l15 : K.lookup f15 = some ⟨oc15, od15, .func (PySem.W.fnOf "round_up" "round_up" (defArgs (topS 15)) (defBody (topS 15)) (defScope (topS 15)) .none kV15 dc15 pm15 an15 cd15 ct15), sl15⟩)
    (c15 : PySem.W.codeIn K cd15 "round_up" = true)
    (k15 : PySem.W.keepIn K (.ref f15) = true)
    (a16 : PySem.W.nsIn K mainGlobals "built" = some (some (.ref f16)))
    (l16 : K.lookup f16 = some ⟨oc16, od16, .func (PySem.W.fnOf "built" "built" (defArgs (topS 16)) (defBody (topS 16)) (defScope (topS 16)) .none kV16 dc16 pm16 an16 cd16 ct16), sl16⟩)
    (c16 : PySem.W.codeIn K cd16 "built" = true)
    (k16 : PySem.W.keepIn K (.ref f16) = true)
    (a17 : PySem.W.nsIn K mainGlobals "check_coins" = some (some (.ref f17)))
    (l17 : K.lookup f17 = some ⟨oc17, od17, .func (PySem.W.fnOf "check_coins" "check_coins" (defArgs (topS 17)) (defBody (topS 17)) (defScope (topS 17)) .none kV17 dc17 pm17 an17 cd17 ct17), sl17⟩)
    (c17 : PySem.W.codeIn K cd17 "check_coins" = true)
    (k17 : PySem.W.keepIn K (.ref f17) = true)
    (a19 : PySem.W.nsIn K mainGlobals "check_system" = some (some (.ref f19)))
    (l19 : K.lookup f19 = some ⟨oc19, od19, .func (PySem.W.fnOf "check_system" "check_system" (defArgs (topS 19)) (defBody (topS 19)) (defScope (topS 19)) .none kV19 dc19 pm19 an19 cd19 ct19), sl19⟩)
    (c19 : PySem.W.codeIn K cd19 "check_system" = true)
    (k19 : PySem.W.keepIn K (.ref f19) = true)
    (a20 : PySem.W.nsIn K mainGlobals "check_sum" = some (some (.ref f20)))
    (l20 : K.lookup f20 = some ⟨oc20, od20, .func (PySem.W.fnOf "check_sum" "check_sum" (defArgs (topS 20)) (defBody (topS 20)) (defScope (topS 20)) .none kV20 dc20 pm20 an20 cd20 ct20), sl20⟩)
    (c20 : PySem.W.codeIn K cd20 "check_sum" = true)
    (k20 : PySem.W.keepIn K (.ref f20) = true)
    (a21 : PySem.W.nsIn K mainGlobals "pays_of" = some (some (.ref f21)))
    (l21 : K.lookup f21 = some ⟨oc21, od21, .func (PySem.W.fnOf "pays_of" "pays_of" (defArgs (topS 21)) (defBody (topS 21)) (defScope (topS 21)) .none kV21 dc21 pm21 an21 cd21 ct21), sl21⟩)
    (c21 : PySem.W.codeIn K cd21 "pays_of" = true)
    (k21 : PySem.W.keepIn K (.ref f21) = true)
    (a22 : PySem.W.nsIn K mainGlobals "pays" = some (some (.ref f22)))
    (l22 : K.lookup f22 = some ⟨oc22, od22, .func (PySem.W.fnOf "pays" "pays" (defArgs (topS 22)) (defBody (topS 22)) (defScope (topS 22)) .none kV22 dc22 pm22 an22 cd22 ct22), sl22⟩)
    (c22 : PySem.W.codeIn K cd22 "pays" = true)
    (k22 : PySem.W.keepIn K (.ref f22) = true)
    (a23 : PySem.W.nsIn K mainGlobals "needed" = some (some (.ref f23)))
    (l23 : K.lookup f23 = some ⟨oc23, od23, .func (PySem.W.fnOf "needed" "needed" (defArgs (topS 23)) (defBody (topS 23)) (defScope (topS 23)) .none kV23 dc23 pm23 an23 cd23 ct23), sl23⟩)
    (c23 : PySem.W.codeIn K cd23 "needed" = true)
    (k23 : PySem.W.keepIn K (.ref f23) = true)
    (a25 : PySem.W.nsIn K mainGlobals "gaps_number_of" = some (some (.ref f25)))
    (l25 : K.lookup f25 = some ⟨oc25, od25, .func (PySem.W.fnOf "gaps_number_of" "gaps_number_of" (defArgs (topS 25)) (defBody (topS 25)) (defScope (topS 25)) .none kV25 dc25 pm25 an25 cd25 ct25), sl25⟩)
    (c25 : PySem.W.codeIn K cd25 "gaps_number_of" = true)
    (k25 : PySem.W.keepIn K (.ref f25) = true)
    (a26 : PySem.W.nsIn K mainGlobals "gaps_number" = some (some (.ref f26)))
    (l26 : K.lookup f26 = some ⟨oc26, od26, .func (PySem.W.fnOf "gaps_number" "gaps_number" (defArgs (topS 26)) (defBody (topS 26)) (defScope (topS 26)) .none kV26 dc26 pm26 an26 cd26 ct26), sl26⟩)
    (c26 : PySem.W.codeIn K cd26 "gaps_number" = true)
    (k26 : PySem.W.keepIn K (.ref f26) = true)
    (a28 : PySem.W.nsIn K mainGlobals "least_coins" = some (some (.ref f28)))
    (l28 : K.lookup f28 = some ⟨oc28, od28, .func (PySem.W.fnOf "least_coins" "least_coins" (defArgs (topS 28)) (defBody (topS 28)) (defScope (topS 28)) .none kV28 dc28 pm28 an28 cd28 ct28), sl28⟩)
    (c28 : PySem.W.codeIn K cd28 "least_coins" = true)
    (k28 : PySem.W.keepIn K (.ref f28) = true)
    (a32 : PySem.W.nsIn K mainGlobals "check_rule" = some (some (.ref f32)))
    (l32 : K.lookup f32 = some ⟨oc32, od32, .func (PySem.W.fnOf "check_rule" "check_rule" (defArgs (topS 32)) (defBody (topS 32)) (defScope (topS 32)) .none kV32 dc32 pm32 an32 cd32 ct32), sl32⟩)
    (c32 : PySem.W.codeIn K cd32 "check_rule" = true)
    (k32 : PySem.W.keepIn K (.ref f32) = true)
    (a33 : PySem.W.nsIn K mainGlobals "rule_holds" = some (some (.ref f33)))
    (l33 : K.lookup f33 = some ⟨oc33, od33, .func (PySem.W.fnOf "rule_holds" "rule_holds" (defArgs (topS 33)) (defBody (topS 33)) (defScope (topS 33)) .none kV33 dc33 pm33 an33 cd33 ct33), sl33⟩)
    (c33 : PySem.W.codeIn K cd33 "rule_holds" = true)
    (k33 : PySem.W.keepIn K (.ref f33) = true)
    (a34 : PySem.W.nsIn K mainGlobals "rule_system" = some (some (.ref f34)))
    (l34 : K.lookup f34 = some ⟨oc34, od34, .func (PySem.W.fnOf "rule_system" "rule_system" (defArgs (topS 34)) (defBody (topS 34)) (defScope (topS 34)) .none kV34 dc34 pm34 an34 cd34 ct34), sl34⟩)
    (c34 : PySem.W.codeIn K cd34 "rule_system" = true)
    (k34 : PySem.W.keepIn K (.ref f34) = true)
    (a35 : PySem.W.nsIn K mainGlobals "rule_gaps" = some (some (.ref f35)))
    (l35 : K.lookup f35 = some ⟨oc35, od35, .func (PySem.W.fnOf "rule_gaps" "rule_gaps" (defArgs (topS 35)) (defBody (topS 35)) (defScope (topS 35)) .none kV35 dc35 pm35 an35 cd35 ct35), sl35⟩)
    (c35 : PySem.W.codeIn K cd35 "rule_gaps" = true)
    (k35 : PySem.W.keepIn K (.ref f35) = true)
    (a36 : PySem.W.nsIn K mainGlobals "rule_mirror" = some (some (.ref f36)))
    (l36 : K.lookup f36 = some ⟨oc36, od36, .func (PySem.W.fnOf "rule_mirror" "rule_mirror" (defArgs (topS 36)) (defBody (topS 36)) (defScope (topS 36)) .none kV36 dc36 pm36 an36 cd36 ct36), sl36⟩)
    (c36 : PySem.W.codeIn K cd36 "rule_mirror" = true)
    (k36 : PySem.W.keepIn K (.ref f36) = true)
    (a37 : PySem.W.nsIn K mainGlobals "least_kept" = some (some (.ref f37)))
    (l37 : K.lookup f37 = some ⟨oc37, od37, .func (PySem.W.fnOf "least_kept" "least_kept" (defArgs (topS 37)) (defBody (topS 37)) (defScope (topS 37)) .none kV37 dc37 pm37 an37 cd37 ct37), sl37⟩)
    (c37 : PySem.W.codeIn K cd37 "least_kept" = true)
    (k37 : PySem.W.keepIn K (.ref f37) = true)
    (a38 : PySem.W.nsIn K mainGlobals "same_rule" = some (some (.ref f38)))
    (l38 : K.lookup f38 = some ⟨oc38, od38, .func (PySem.W.fnOf "same_rule" "same_rule" (defArgs (topS 38)) (defBody (topS 38)) (defScope (topS 38)) .none kV38 dc38 pm38 an38 cd38 ct38), sl38⟩)
    (c38 : PySem.W.codeIn K cd38 "same_rule" = true)
    (k38 : PySem.W.keepIn K (.ref f38) = true)
    (a39 : PySem.W.nsIn K mainGlobals "twin_factor" = some (some (.ref f39)))
    (l39 : K.lookup f39 = some ⟨oc39, od39, .func (PySem.W.fnOf "twin_factor" "twin_factor" (defArgs (topS 39)) (defBody (topS 39)) (defScope (topS 39)) .none kV39 dc39 pm39 an39 cd39 ct39), sl39⟩)
    (c39 : PySem.W.codeIn K cd39 "twin_factor" = true)
    (k39 : PySem.W.keepIn K (.ref f39) = true)
    (a40 : PySem.W.nsIn K mainGlobals "gap_ways" = some (some (.ref f40)))
    (l40 : K.lookup f40 = some ⟨oc40, od40, .func (PySem.W.fnOf "gap_ways" "gap_ways" (defArgs (topS 40)) (defBody (topS 40)) (defScope (topS 40)) .none kV40 dc40 pm40 an40 cd40 ct40), sl40⟩)
    (c40 : PySem.W.codeIn K cd40 "gap_ways" = true)
    (k40 : PySem.W.keepIn K (.ref f40) = true)
    (a42 : PySem.W.nsIn K mainGlobals "_law_hand" = some (some (.ref f42)))
    (l42 : K.lookup f42 = some ⟨oc42, od42, .func (PySem.W.fnOf "_law_hand" "_law_hand" (defArgs (topS 42)) (defBody (topS 42)) (defScope (topS 42)) .none kV42 dc42 pm42 an42 cd42 ct42), sl42⟩)
    (c42 : PySem.W.codeIn K cd42 "_law_hand" = true)
    (k42 : PySem.W.keepIn K (.ref f42) = true)
    (a43 : PySem.W.nsIn K mainGlobals "_law_draw" = some (some (.ref f43)))
    (l43 : K.lookup f43 = some ⟨oc43, od43, .func (PySem.W.fnOf "_law_draw" "_law_draw" (defArgs (topS 43)) (defBody (topS 43)) (defScope (topS 43)) .none kV43 dc43 pm43 an43 cd43 ct43), sl43⟩)
    (c43 : PySem.W.codeIn K cd43 "_law_draw" = true)
    (k43 : PySem.W.keepIn K (.ref f43) = true)
    (a44 : PySem.W.nsIn K mainGlobals "_law_any" = some (some (.ref f44)))
    (l44 : K.lookup f44 = some ⟨oc44, od44, .func (PySem.W.fnOf "_law_any" "_law_any" (defArgs (topS 44)) (defBody (topS 44)) (defScope (topS 44)) .none kV44 dc44 pm44 an44 cd44 ct44), sl44⟩)
    (c44 : PySem.W.codeIn K cd44 "_law_any" = true)
    (k44 : PySem.W.keepIn K (.ref f44) = true)
    (a45 : PySem.W.nsIn K mainGlobals "_law_great" = some (some (.ref f45)))
    (l45 : K.lookup f45 = some ⟨oc45, od45, .func (PySem.W.fnOf "_law_great" "_law_great" (defArgs (topS 45)) (defBody (topS 45)) (defScope (topS 45)) .none kV45 dc45 pm45 an45 cd45 ct45), sl45⟩)
    (c45 : PySem.W.codeIn K cd45 "_law_great" = true)
    (k45 : PySem.W.keepIn K (.ref f45) = true)
    (a46 : PySem.W.nsIn K mainGlobals "_law_keeps" = some (some (.ref f46)))
    (l46 : K.lookup f46 = some ⟨oc46, od46, .func (PySem.W.fnOf "_law_keeps" "_law_keeps" (defArgs (topS 46)) (defBody (topS 46)) (defScope (topS 46)) .none kV46 dc46 pm46 an46 cd46 ct46), sl46⟩)
    (c46 : PySem.W.codeIn K cd46 "_law_keeps" = true)
    (k46 : PySem.W.keepIn K (.ref f46) = true)
    (a47 : PySem.W.nsIn K mainGlobals "_law_common" = some (some (.ref f47)))
    (l47 : K.lookup f47 = some ⟨oc47, od47, .func (PySem.W.fnOf "_law_common" "_law_common" (defArgs (topS 47)) (defBody (topS 47)) (defScope (topS 47)) .none kV47 dc47 pm47 an47 cd47 ct47), sl47⟩)
    (c47 : PySem.W.codeIn K cd47 "_law_common" = true)
    (k47 : PySem.W.keepIn K (.ref f47) = true)
    (a48 : PySem.W.nsIn K mainGlobals "_law_needed" = some (some (.ref f48)))
    (l48 : K.lookup f48 = some ⟨oc48, od48, .func (PySem.W.fnOf "_law_needed" "_law_needed" (defArgs (topS 48)) (defBody (topS 48)) (defScope (topS 48)) .none kV48 dc48 pm48 an48 cd48 ct48), sl48⟩)
    (c48 : PySem.W.codeIn K cd48 "_law_needed" = true)
    (k48 : PySem.W.keepIn K (.ref f48) = true)
    (a49 : PySem.W.nsIn K mainGlobals "_law_kept" = some (some (.ref f49)))
    (l49 : K.lookup f49 = some ⟨oc49, od49, .func (PySem.W.fnOf "_law_kept" "_law_kept" (defArgs (topS 49)) (defBody (topS 49)) (defScope (topS 49)) .none kV49 dc49 pm49 an49 cd49 ct49), sl49⟩)
    (c49 : PySem.W.codeIn K cd49 "_law_kept" = true)
    (k49 : PySem.W.keepIn K (.ref f49) = true)
    (a50 : PySem.W.nsIn K mainGlobals "_law_by_divisors" = some (some (.ref f50)))
    (l50 : K.lookup f50 = some ⟨oc50, od50, .func (PySem.W.fnOf "_law_by_divisors" "_law_by_divisors" (defArgs (topS 50)) (defBody (topS 50)) (defScope (topS 50)) .none kV50 dc50 pm50 an50 cd50 ct50), sl50⟩)
    (c50 : PySem.W.codeIn K cd50 "_law_by_divisors" = true)
    (k50 : PySem.W.keepIn K (.ref f50) = true)
    (a51 : PySem.W.nsIn K mainGlobals "_law_rule_right" = some (some (.ref f51)))
    (l51 : K.lookup f51 = some ⟨oc51, od51, .func (PySem.W.fnOf "_law_rule_right" "_law_rule_right" (defArgs (topS 51)) (defBody (topS 51)) (defScope (topS 51)) .none kV51 dc51 pm51 an51 cd51 ct51), sl51⟩)
    (c51 : PySem.W.codeIn K cd51 "_law_rule_right" = true)
    (k51 : PySem.W.keepIn K (.ref f51) = true)
    (a52 : PySem.W.nsIn K mainGlobals "_law_numbers_right" = some (some (.ref f52)))
    (l52 : K.lookup f52 = some ⟨oc52, od52, .func (PySem.W.fnOf "_law_numbers_right" "_law_numbers_right" (defArgs (topS 52)) (defBody (topS 52)) (defScope (topS 52)) .none kV52 dc52 pm52 an52 cd52 ct52), sl52⟩)
    (c52 : PySem.W.codeIn K cd52 "_law_numbers_right" = true)
    (k52 : PySem.W.keepIn K (.ref f52) = true)
    (a53 : PySem.W.nsIn K mainGlobals "_law_twin_right" = some (some (.ref f53)))
    (l53 : K.lookup f53 = some ⟨oc53, od53, .func (PySem.W.fnOf "_law_twin_right" "_law_twin_right" (defArgs (topS 53)) (defBody (topS 53)) (defScope (topS 53)) .none kV53 dc53 pm53 an53 cd53 ct53), sl53⟩)
    (c53 : PySem.W.codeIn K cd53 "_law_twin_right" = true)
    (k53 : PySem.W.keepIn K (.ref f53) = true)
    (a54 : PySem.W.nsIn K mainGlobals "_law_same_right" = some (some (.ref f54)))
    (l54 : K.lookup f54 = some ⟨oc54, od54, .func (PySem.W.fnOf "_law_same_right" "_law_same_right" (defArgs (topS 54)) (defBody (topS 54)) (defScope (topS 54)) .none kV54 dc54 pm54 an54 cd54 ct54), sl54⟩)
    (c54 : PySem.W.codeIn K cd54 "_law_same_right" = true)
    (k54 : PySem.W.keepIn K (.ref f54) = true)
    (a55 : PySem.W.nsIn K mainGlobals "_law_ways_right" = some (some (.ref f55)))
    (l55 : K.lookup f55 = some ⟨oc55, od55, .func (PySem.W.fnOf "_law_ways_right" "_law_ways_right" (defArgs (topS 55)) (defBody (topS 55)) (defScope (topS 55)) .none kV55 dc55 pm55 an55 cd55 ct55), sl55⟩)
    (c55 : PySem.W.codeIn K cd55 "_law_ways_right" = true)
    (k55 : PySem.W.keepIn K (.ref f55) = true)
    (a56 : PySem.W.nsIn K mainGlobals "_law_word" = some (some (.ref f56)))
    (l56 : K.lookup f56 = some ⟨oc56, od56, .func (PySem.W.fnOf "_law_word" "_law_word" (defArgs (topS 56)) (defBody (topS 56)) (defScope (topS 56)) .none kV56 dc56 pm56 an56 cd56 ct56), sl56⟩)
    (c56 : PySem.W.codeIn K cd56 "_law_word" = true)
    (k56 : PySem.W.keepIn K (.ref f56) = true)
    (a57 : PySem.W.nsIn K mainGlobals "_law_refused_right" = some (some (.ref f57)))
    (l57 : K.lookup f57 = some ⟨oc57, od57, .func (PySem.W.fnOf "_law_refused_right" "_law_refused_right" (defArgs (topS 57)) (defBody (topS 57)) (defScope (topS 57)) .none kV57 dc57 pm57 an57 (.ref cT57) ct57), sl57⟩)
    (c57 : PySem.W.codeIn K (.ref cT57) "_law_refused_right" = true)
    (k57 : PySem.W.keepIn K (.ref f57) = true)
    (a58 : PySem.W.nsIn K mainGlobals "_law_word_of" = some (some (.ref f58)))
    (l58 : K.lookup f58 = some ⟨oc58, od58, .func (PySem.W.fnOf "_law_word_of" "_law_word_of" (defArgs (topS 58)) (defBody (topS 58)) (defScope (topS 58)) .none kV58 dc58 pm58 an58 (.ref cT58) ct58), sl58⟩)
    (c58 : PySem.W.codeIn K (.ref cT58) "_law_word_of" = true)
    (k58 : PySem.W.keepIn K (.ref f58) = true)
    (a59 : PySem.W.nsIn K mainGlobals "_law_word_great" = some (some (.ref f59)))
    (l59 : K.lookup f59 = some ⟨oc59, od59, .func (PySem.W.fnOf "_law_word_great" "_law_word_great" (defArgs (topS 59)) (defBody (topS 59)) (defScope (topS 59)) .none kV59 dc59 pm59 an59 (.ref cT59) ct59), sl59⟩)
    (c59 : PySem.W.codeIn K (.ref cT59) "_law_word_great" = true)
    (k59 : PySem.W.keepIn K (.ref f59) = true)
    (a60 : PySem.W.nsIn K mainGlobals "law" = some (some (.ref f60)))
    (l60 : K.lookup f60 = some ⟨oc60, od60, .func (PySem.W.fnOf "law" "law" (defArgs (topS 60)) (defBody (topS 60)) (defScope (topS 60)) .none kV60 dc60 pm60 an60 cd60 ct60), sl60⟩)
    (c60 : PySem.W.codeIn K cd60 "law" = true)
    (k60 : PySem.W.keepIn K (.ref f60) = true)
    (nCoinError : PySem.W.nsIn K mainGlobals "CoinError" = some (some (.ref aCoinError)))
    (nBadNumber : PySem.W.nsIn K mainGlobals "BadNumber" = some (some (.ref aBadNumber)))
    (qBadNumber : PySem.W.excIn K aBadNumber [.type "ValueError", .type "Exception", .type "BaseException", .type "object"] "ValueError.__new__" = true)
    (kBadNumber : PySem.W.keepIn K (.ref aBadNumber) = true)
    (sBadNumber : PySem.W.subIn K (.ref aBadNumber) (.type "BaseException") = some true)
    (tBadNumber : PySem.W.typeIn K (.ref aBadNumber) = some (.type "type"))
    (nNoSystem : PySem.W.nsIn K mainGlobals "NoSystem" = some (some (.ref aNoSystem)))
    (qNoSystem : PySem.W.excIn K aNoSystem [.type "ValueError", .type "Exception", .type "BaseException", .type "object"] "ValueError.__new__" = true)
    (kNoSystem : PySem.W.keepIn K (.ref aNoSystem) = true)
    (sNoSystem : PySem.W.subIn K (.ref aNoSystem) (.type "BaseException") = some true)
    (tNoSystem : PySem.W.typeIn K (.ref aNoSystem) = some (.type "type"))
    (nBadCoins : PySem.W.nsIn K mainGlobals "BadCoins" = some (some (.ref aBadCoins)))
    (xLBadCoins : K.lookup aBadCoins = some (excClassObj nmBadCoins qnBadCoins aBadCoins N0BadCoins bsBadCoins bmBadCoins true snBadCoins subBadCoins abBadCoins colBadCoins ddBadCoins m0BadCoins m1BadCoins m2BadCoins m3BadCoins m5BadCoins "ValueError.__new__"))
    (hbmBadCoins : PySem.HandSPX.refsVE bmBadCoins = true)
    (saBadCoins : PySem.W.findIn K (.ref aBadCoins) "__setattr__" = some (some (.builtin "object.__setattr__")))
    (sBadCoins : PySem.W.subIn K (.ref aBadCoins) (.type "BaseException") = some true)
    (tBadCoins : PySem.W.typeIn K (.ref aBadCoins) = some (.type "type"))
    (kBadCoins : PySem.W.keepIn K (.ref aBadCoins) = true)
    (atBadCoins : PySem.W.findIn K (.ref aBadCoins) "at" = some none)
    (iBadCoins : PySem.W.findIn K (.ref aBadCoins) "__init__" = some (some (.ref fIBadCoins)))
    (tIBadCoins : PySem.W.typeIn K (.ref fIBadCoins) = some (.type "function"))
    (lIBadCoins : K.lookup fIBadCoins = some ⟨ocIBadCoins, odIBadCoins, .func (PySem.W.fnOf "__init__" "BadCoins.__init__" (defArgs s_init_BadCoins) (defBody s_init_BadCoins) (defScope s_init_BadCoins) .none kVIBadCoins dcIBadCoins pmIBadCoins anIBadCoins cdIBadCoins ctIBadCoins), slIBadCoins⟩)
    (cIBadCoins : PySem.W.codeIn K cdIBadCoins "BadCoins.__init__" = true)
    (kIBadCoins : PySem.W.keepIn K (.ref fIBadCoins) = true)
    (nTooMany : PySem.W.nsIn K mainGlobals "TooMany" = some (some (.ref aTooMany)))
    (xLTooMany : K.lookup aTooMany = some (excClassObj nmTooMany qnTooMany aTooMany N0TooMany bsTooMany bmTooMany true snTooMany subTooMany abTooMany colTooMany ddTooMany m0TooMany m1TooMany m2TooMany m3TooMany m5TooMany "ValueError.__new__"))
    (hbmTooMany : PySem.HandSPX.refsVE bmTooMany = true)
    (saTooMany : PySem.W.findIn K (.ref aTooMany) "__setattr__" = some (some (.builtin "object.__setattr__")))
    (sTooMany : PySem.W.subIn K (.ref aTooMany) (.type "BaseException") = some true)
    (tTooMany : PySem.W.typeIn K (.ref aTooMany) = some (.type "type"))
    (kTooMany : PySem.W.keepIn K (.ref aTooMany) = true)
    (atTooMany : PySem.W.findIn K (.ref aTooMany) "most" = some none)
    (iTooMany : PySem.W.findIn K (.ref aTooMany) "__init__" = some (some (.ref fITooMany)))
    (tITooMany : PySem.W.typeIn K (.ref fITooMany) = some (.type "function"))
    (lITooMany : K.lookup fITooMany = some ⟨ocITooMany, odITooMany, .func (PySem.W.fnOf "__init__" "TooMany.__init__" (defArgs s_init_TooMany) (defBody s_init_TooMany) (defScope s_init_TooMany) .none kVITooMany dcITooMany pmITooMany anITooMany cdITooMany ctITooMany), slITooMany⟩)
    (cITooMany : PySem.W.codeIn K cdITooMany "TooMany.__init__" = true)
    (kITooMany : PySem.W.keepIn K (.ref fITooMany) = true)
    (nSystem : PySem.W.nsIn K mainGlobals "System" = some (some (.ref aSystem)))
    (yiSystem : PySem.W.findIn K (.ref aSystem) "__init__" = some (some (.ref fISystem)))
    (ylSystem : K.lookup fISystem = some ⟨ocISystem, odISystem, .func (PySem.W.fnOf "__init__" "System.__init__" (defArgs s_System_init) (defBody s_System_init) (defScope s_System_init) .none kVISystem dcISystem pmISystem anISystem cdISystem ctISystem), slISystem⟩)
    (ycSystem : PySem.W.codeIn K cdISystem "System.__init__" = true)
    (ykSystem : PySem.W.keepIn K (.ref fISystem) = true)
    (ypgSystem : PySem.W.plainGet K aSystem Str.empty = true)
    (yhdSystem : PySem.W.hasDictIn K aSystem = true)
    (ypoSystem : PySem.W.plainOver K aSystem = true)
    (ysaSystem : PySem.W.findIn K (.ref aSystem) "__setattr__" = some (some (.builtin "object.__setattr__")))
    (yhaSystem : PySem.W.findIn K (.ref aSystem) "__class__" = some (some (.builtin "object.__class__")))
    (ymrSystem : PySem.W.mroIn K aSystem (.type "object") = some true)
    (ymkSystem : PySem.W.makesIn K aSystem = true)
    (ykpSystem : PySem.W.keepIn K (.ref aSystem) = true)
    (yhnSystem : PySem.W.specialIn K (.builtin "object.__class__") "__get__" = some (some (.builtin "getset_descriptor.__get__")))
    (ytkSystem : PySem.W.takesIn K (.builtin "object.__class__") = some true)
    (ymeSystem : PySem.W.kitOne K (.ref aSystem) (.ref aSystem) = some true)
    (ynoSystem : ["NoneType", "bool", "int", "str", "tuple", "list", "dict"].all (fun n => PySem.W.kitOne K (.type n) (.ref aSystem) == some false) = true)
    (yfnSystem : PySem.W.isFn K (.ref fISystem) = true)
    (yfSystemcoins : PySem.W.findIn K (.ref aSystem) "coins" = some none)
    (yfSystemneeded_coins : PySem.W.findIn K (.ref aSystem) "needed_coins" = some none)
    (yfSystemrests : PySem.W.findIn K (.ref aSystem) "rests" = some none)
    (qiSystem : PySem.W.findIn K (.ref aSystem) "__eq__" = some (some (.ref fQSystem)))
    (qlSystem : K.lookup fQSystem = some ⟨ocQSystem, odQSystem, .func (PySem.W.fnOf "__eq__" "System.__eq__" (defArgs s_System_eq) (defBody s_System_eq) (defScope s_System_eq) .none kVQSystem dcQSystem pmQSystem anQSystem cdQSystem ctQSystem), slQSystem⟩)
    (qcSystem : PySem.W.codeIn K cdQSystem "System.__eq__" = true)
    (qkSystem : PySem.W.keepIn K (.ref fQSystem) = true)
    (qfnSystem : PySem.W.isFn K (.ref fQSystem) = true)
    (w_ve : PySem.W.nsIn K mainGlobals "ValueError" = some none)
    (w_x_TooMany : PySem.W.exmOne K (.ref aTooMany) (.ref aCoinError) = some true)
    (w_v_TooMany : PySem.W.kitOne K (.ref aTooMany) (.type "ValueError") = some true)
    (w_e_TooMany : excDB K aTooMany = true)
    (w_k_TooMany_TooMany : PySem.W.kitOne K (.ref aTooMany) (.ref aTooMany) = some true)
    (w_k_TooMany_BadNumber : PySem.W.kitOne K (.ref aTooMany) (.ref aBadNumber) = some false)
    (w_x_BadNumber : PySem.W.exmOne K (.ref aBadNumber) (.ref aCoinError) = some true)
    (w_v_BadNumber : PySem.W.kitOne K (.ref aBadNumber) (.type "ValueError") = some true)
    (w_e_BadNumber : excDB K aBadNumber = true)
    (w_k_BadNumber_TooMany : PySem.W.kitOne K (.ref aBadNumber) (.ref aTooMany) = some false)
    (w_k_BadNumber_BadNumber : PySem.W.kitOne K (.ref aBadNumber) (.ref aBadNumber) = some true)
    (w_fC : xfB K aTooMany = true)
    (tab57 : PySem.W.tabIn K "_law_refused_right" = some (cT57, Pt57))
    (nP57 : K.lookup Pt57 = none)
    (tab58 : PySem.W.tabIn K "_law_word_of" = some (cT58, Pt58))
    (nP58 : K.lookup Pt58 = none)
    (tab59 : PySem.W.tabIn K "_law_word_great" = some (cT59, Pt59))
    (nP59 : K.lookup Pt59 = none)
    (z_ValueError : PySem.W.nsIn K mainGlobals "ValueError" = some none)
    (z_abs : PySem.W.nsIn K mainGlobals "abs" = some none)
    (z_all : PySem.W.nsIn K mainGlobals "all" = some none)
    (z_any : PySem.W.nsIn K mainGlobals "any" = some none)
    (z_bool : PySem.W.nsIn K mainGlobals "bool" = some none)
    (z_enumerate : PySem.W.nsIn K mainGlobals "enumerate" = some none)
    (z_int : PySem.W.nsIn K mainGlobals "int" = some none)
    (z_isinstance : PySem.W.nsIn K mainGlobals "isinstance" = some none)
    (z_len : PySem.W.nsIn K mainGlobals "len" = some none)
    (z_list : PySem.W.nsIn K mainGlobals "list" = some none)
    (z_min : PySem.W.nsIn K mainGlobals "min" = some none)
    (z_range : PySem.W.nsIn K mainGlobals "range" = some none)
    (z_repr : PySem.W.nsIn K mainGlobals "repr" = some none)
    (z_sorted : PySem.W.nsIn K mainGlobals "sorted" = some none)
    (z_sum : PySem.W.nsIn K mainGlobals "sum" = some none)
    (z_tuple : PySem.W.nsIn K mainGlobals "tuple" = some none)
    (m_MOST_LEAST : ∃ t, PySem.W.nsIn K mainGlobals "MOST_LEAST" = some (some (.int 2000 t)))
    (m_MOST_COINS : ∃ t, PySem.W.nsIn K mainGlobals "MOST_COINS" = some (some (.int 700 t)))
    (m_MOST_MODULUS : ∃ t, PySem.W.nsIn K mainGlobals "MOST_MODULUS" = some (some (.int 600 t)))
    (hT57 : PySem.W.tabIn K "_law_refused_right" = some (cT57, Pt57) → PySem.W.CodeHd h cT57 Pt57 ∧ h.get? Pt57 = some (PySem.W.tabObj #[])) (hP57 : (Pt57, ("_law_refused_right.<locals>.<lambda>" : Str)) ∈ lamT) (hu57 : ∀ p ∈ lamT, p.1 = Pt57 → p.2 = ("_law_refused_right.<locals>.<lambda>" : Str))
    (hT58 : PySem.W.tabIn K "_law_word_of" = some (cT58, Pt58) → PySem.W.CodeHd h cT58 Pt58 ∧ h.get? Pt58 = some (PySem.W.tabObj #[])) (hP58 : (Pt58, ("_law_word_of.<locals>.<lambda>" : Str)) ∈ lamT) (hu58 : ∀ p ∈ lamT, p.1 = Pt58 → p.2 = ("_law_word_of.<locals>.<lambda>" : Str))
    (hT59 : PySem.W.tabIn K "_law_word_great" = some (cT59, Pt59) → PySem.W.CodeHd h cT59 Pt59 ∧ h.get? Pt59 = some (PySem.W.tabObj #[])) (hP59 : (Pt59, ("_law_word_great.<locals>.<lambda>" : Str)) ∈ lamT) (hu59 : ∀ p ∈ lamT, p.1 = Pt59 → p.2 = ("_law_word_great.<locals>.<lambda>" : Str))
    (hcov : ∀ p ∈ lamT, p.1 ∈ ([Pt57, Pt58, Pt59] : List Addr)) :
    ∃ (fd : FuncData) (cs : List (Addr × Addr)), (∀ p ∈ cs, h.get? p.2 = some { cls := .none, data := .fields #[] }) ∧ (∀ p ∈ cs, K.lookup p.2 = none) ∧ (∀ p ∈ cs, PySem.W.CodeHd h p.1 p.2) ∧ (∀ p ∈ lamT, p.1 ∈ cs.map (·.2)) ∧
      (∀ (s : Shared) (u : Value), BindsTo s fd ⟨[u], []⟩ [("script", u)]) ∧ ∀ base : Heap, K.In base → base.Ns mainGlobals mg → (∀ p ∈ cs, TabB base mg p.1 p.2) → VL.FnOk l.prog w K mg base (L2N.CX l.prog w) 13 fa fd ["script"] (spV K (detS A_script)) := by
  have e := hfa.symm.trans (PySem.W.mg_of X G a60)
  cases e
  obtain ⟨hcA57, hcB57⟩ := hT57 tab57
  obtain ⟨hcA58, hcB58⟩ := hT58 tab58
  obtain ⟨hcA59, hcB59⟩ := hT59 tab59
  have G1 := PySem.W.mg_of X G a1
  have F1 := fun_mk (st := topS 1) l1 c1 k1
  have b1 := F1.binds (ps := ["thing"]) fun _ _ _ _ _ _ us hl => match us, hl with | [_], _ => rfl
  have G2 := PySem.W.mg_of X G a2
  have F2 := fun_mk (st := topS 2) l2 c2 k2
  have b2 := F2.binds (ps := ["thing", "low", "high"]) fun _ _ _ _ _ _ us hl => match us, hl with | [_, _, _], _ => rfl
  have G3 := PySem.W.mg_of X G a3
  have F3 := fun_mk (st := topS 3) l3 c3 k3
  have b3 := F3.binds (ps := ["one", "other"]) fun _ _ _ _ _ _ us hl => match us, hl with | [_, _], _ => rfl
  have G4 := PySem.W.mg_of X G a4
  have F4 := fun_mk (st := topS 4) l4 c4 k4
  have b4 := F4.binds (ps := ["some"]) fun _ _ _ _ _ _ us hl => match us, hl with | [_], _ => rfl
  have G15 := PySem.W.mg_of X G a15
  have F15 := fun_mk (st := topS 15) l15 c15 k15
  have b15 := F15.binds (ps := ["found", "coin", "step", "modulus"]) fun _ _ _ _ _ _ us hl => match us, hl with | [_, _, _, _], _ => rfl
  have G16 := PySem.W.mg_of X G a16
  have F16 := fun_mk (st := topS 16) l16 c16 k16
  have b16 := F16.binds (ps := ["coins"]) fun _ _ _ _ _ _ us hl => match us, hl with | [_], _ => rfl
  have G17 := PySem.W.mg_of X G a17
  have F17 := fun_mk (st := topS 17) l17 c17 k17
  have b17 := F17.binds (ps := ["coins"]) fun _ _ _ _ _ _ us hl => match us, hl with | [_], _ => rfl
  have G19 := PySem.W.mg_of X G a19
  have F19 := fun_mk (st := topS 19) l19 c19 k19
  have b19 := F19.binds (ps := ["system"]) fun _ _ _ _ _ _ us hl => match us, hl with | [_], _ => rfl
  have G20 := PySem.W.mg_of X G a20
  have F20 := fun_mk (st := topS 20) l20 c20 k20
  have b20 := F20.binds (ps := ["system", "number"]) fun _ _ _ _ _ _ us hl => match us, hl with | [_, _], _ => rfl
  have G21 := PySem.W.mg_of X G a21
  have F21 := fun_mk (st := topS 21) l21 c21 k21
  have b21 := F21.binds (ps := ["system", "number"]) fun _ _ _ _ _ _ us hl => match us, hl with | [_, _], _ => rfl
  have G22 := PySem.W.mg_of X G a22
  have F22 := fun_mk (st := topS 22) l22 c22 k22
  have b22 := F22.binds (ps := ["system", "number"]) fun _ _ _ _ _ _ us hl => match us, hl with | [_, _], _ => rfl
  have G23 := PySem.W.mg_of X G a23
  have F23 := fun_mk (st := topS 23) l23 c23 k23
  have b23 := F23.binds (ps := ["system"]) fun _ _ _ _ _ _ us hl => match us, hl with | [_], _ => rfl
  have G25 := PySem.W.mg_of X G a25
  have F25 := fun_mk (st := topS 25) l25 c25 k25
  have b25 := F25.binds (ps := ["system"]) fun _ _ _ _ _ _ us hl => match us, hl with | [_], _ => rfl
  have G26 := PySem.W.mg_of X G a26
  have F26 := fun_mk (st := topS 26) l26 c26 k26
  have b26 := F26.binds (ps := ["system"]) fun _ _ _ _ _ _ us hl => match us, hl with | [_], _ => rfl
  have G28 := PySem.W.mg_of X G a28
  have F28 := fun_mk (st := topS 28) l28 c28 k28
  have b28 := F28.binds (ps := ["coins"]) fun _ _ _ _ _ _ us hl => match us, hl with | [_], _ => rfl
  have G32 := PySem.W.mg_of X G a32
  have F32 := fun_mk (st := topS 32) l32 c32 k32
  have b32 := F32.binds (ps := ["factor", "modulus", "share"]) fun _ _ _ _ _ _ us hl => match us, hl with | [_, _, _], _ => rfl
  have G33 := PySem.W.mg_of X G a33
  have F33 := fun_mk (st := topS 33) l33 c33 k33
  have b33 := F33.binds (ps := ["factor", "modulus", "share", "number"]) fun _ _ _ _ _ _ us hl => match us, hl with | [_, _, _, _], _ => rfl
  have G34 := PySem.W.mg_of X G a34
  have F34 := fun_mk (st := topS 34) l34 c34 k34
  have b34 := F34.binds (ps := ["factor", "modulus", "share"]) fun _ _ _ _ _ _ us hl => match us, hl with | [_, _, _], _ => rfl
  have G35 := PySem.W.mg_of X G a35
  have F35 := fun_mk (st := topS 35) l35 c35 k35
  have b35 := F35.binds (ps := ["factor", "modulus"]) fun _ _ _ _ _ _ us hl => match us, hl with | [_, _], _ => rfl
  have G36 := PySem.W.mg_of X G a36
  have F36 := fun_mk (st := topS 36) l36 c36 k36
  have b36 := F36.binds (ps := ["factor", "modulus", "number"]) fun _ _ _ _ _ _ us hl => match us, hl with | [_, _, _], _ => rfl
  have G37 := PySem.W.mg_of X G a37
  have F37 := fun_mk (st := topS 37) l37 c37 k37
  have b37 := F37.binds (ps := ["factor", "modulus", "share"]) fun _ _ _ _ _ _ us hl => match us, hl with | [_, _, _], _ => rfl
  have G38 := PySem.W.mg_of X G a38
  have F38 := fun_mk (st := topS 38) l38 c38 k38
  have b38 := F38.binds (ps := ["one", "other", "modulus"]) fun _ _ _ _ _ _ us hl => match us, hl with | [_, _, _], _ => rfl
  have G39 := PySem.W.mg_of X G a39
  have F39 := fun_mk (st := topS 39) l39 c39 k39
  have b39 := F39.binds (ps := ["factor", "modulus"]) fun _ _ _ _ _ _ us hl => match us, hl with | [_, _], _ => rfl
  have G40 := PySem.W.mg_of X G a40
  have F40 := fun_mk (st := topS 40) l40 c40 k40
  have b40 := F40.binds (ps := ["system", "modulus"]) fun _ _ _ _ _ _ us hl => match us, hl with | [_, _], _ => rfl
  have G42 := PySem.W.mg_of X G a42
  have F42 := fun_mk (st := topS 42) l42 c42 k42
  have b42 := F42.binds (ps := ["script"]) fun _ _ _ _ _ _ us hl => match us, hl with | [_], _ => rfl
  have G43 := PySem.W.mg_of X G a43
  have F43 := fun_mk (st := topS 43) l43 c43 k43
  have b43 := F43.binds (ps := ["hand", "below"]) fun _ _ _ _ _ _ us hl => match us, hl with | [_, _], _ => rfl
  have G44 := PySem.W.mg_of X G a44
  have F44 := fun_mk (st := topS 44) l44 c44 k44
  have b44 := F44.binds (ps := ["hand", "some"]) fun _ _ _ _ _ _ us hl => match us, hl with | [_, _], _ => rfl
  have G45 := PySem.W.mg_of X G a45
  have F45 := fun_mk (st := topS 45) l45 c45 k45
  have b45 := F45.binds (ps := ["hand"]) fun _ _ _ _ _ _ us hl => match us, hl with | [_], _ => rfl
  have G46 := PySem.W.mg_of X G a46
  have F46 := fun_mk (st := topS 46) l46 c46 k46
  have b46 := F46.binds (ps := ["factor", "modulus", "share", "number"]) fun _ _ _ _ _ _ us hl => match us, hl with | [_, _, _, _], _ => rfl
  have G47 := PySem.W.mg_of X G a47
  have F47 := fun_mk (st := topS 47) l47 c47 k47
  have b47 := F47.binds (ps := ["one", "other"]) fun _ _ _ _ _ _ us hl => match us, hl with | [_, _], _ => rfl
  have G48 := PySem.W.mg_of X G a48
  have F48 := fun_mk (st := topS 48) l48 c48 k48
  have b48 := F48.binds (ps := ["kept", "bound"]) fun _ _ _ _ _ _ us hl => match us, hl with | [_, _], _ => rfl
  have G49 := PySem.W.mg_of X G a49
  have F49 := fun_mk (st := topS 49) l49 c49 k49
  have b49 := F49.binds (ps := ["factor", "modulus", "share", "bound"]) fun _ _ _ _ _ _ us hl => match us, hl with | [_, _, _, _], _ => rfl
  have G50 := PySem.W.mg_of X G a50
  have F50 := fun_mk (st := topS 50) l50 c50 k50
  have b50 := F50.binds (ps := ["factor", "modulus"]) fun _ _ _ _ _ _ us hl => match us, hl with | [_, _], _ => rfl
  have G51 := PySem.W.mg_of X G a51
  have F51 := fun_mk (st := topS 51) l51 c51 k51
  have b51 := F51.binds (ps := ["hand", "factor", "modulus", "share"]) fun _ _ _ _ _ _ us hl => match us, hl with | [_, _, _, _], _ => rfl
  have G52 := PySem.W.mg_of X G a52
  have F52 := fun_mk (st := topS 52) l52 c52 k52
  have b52 := F52.binds (ps := ["hand", "factor", "modulus", "share"]) fun _ _ _ _ _ _ us hl => match us, hl with | [_, _, _, _], _ => rfl
  have G53 := PySem.W.mg_of X G a53
  have F53 := fun_mk (st := topS 53) l53 c53 k53
  have b53 := F53.binds (ps := ["hand", "factor", "modulus"]) fun _ _ _ _ _ _ us hl => match us, hl with | [_, _, _], _ => rfl
  have G54 := PySem.W.mg_of X G a54
  have F54 := fun_mk (st := topS 54) l54 c54 k54
  have b54 := F54.binds (ps := ["hand", "modulus"]) fun _ _ _ _ _ _ us hl => match us, hl with | [_, _], _ => rfl
  have G55 := PySem.W.mg_of X G a55
  have F55 := fun_mk (st := topS 55) l55 c55 k55
  have b55 := F55.binds (ps := ["hand", "modulus"]) fun _ _ _ _ _ _ us hl => match us, hl with | [_, _], _ => rfl
  have G56 := PySem.W.mg_of X G a56
  have F56 := fun_mk (st := topS 56) l56 c56 k56
  have b56 := F56.binds (ps := ["call"]) fun _ _ _ _ _ _ us hl => match us, hl with | [_], _ => rfl
  have G57 := PySem.W.mg_of X G a57
  have F57 := fun_mk (st := topS 57) l57 c57 k57
  have b57 := F57.binds (ps := ["hand"]) fun _ _ _ _ _ _ us hl => match us, hl with | [_], _ => rfl
  have G58 := PySem.W.mg_of X G a58
  have F58 := fun_mk (st := topS 58) l58 c58 k58
  have b58 := F58.binds (ps := ["modulus"]) fun _ _ _ _ _ _ us hl => match us, hl with | [_], _ => rfl
  have G59 := PySem.W.mg_of X G a59
  have F59 := fun_mk (st := topS 59) l59 c59 k59
  have b59 := F59.binds (ps := ["ask"]) fun _ _ _ _ _ _ us hl => match us, hl with | [_], _ => rfl
  have G60 := PySem.W.mg_of X G a60
  have F60 := fun_mk (st := topS 60) l60 c60 k60
  have b60 := F60.binds (ps := ["script"]) fun _ _ _ _ _ _ us hl => match us, hl with | [_], _ => rfl
  have Tb : Blt mg := { ValueError := PySem.W.mg_none_of X G z_ValueError, abs := PySem.W.mg_none_of X G z_abs, all := PySem.W.mg_none_of X G z_all, any := PySem.W.mg_none_of X G z_any, bool := PySem.W.mg_none_of X G z_bool, enumerate := PySem.W.mg_none_of X G z_enumerate, int := PySem.W.mg_none_of X G z_int, isinstance := PySem.W.mg_none_of X G z_isinstance, len := PySem.W.mg_none_of X G z_len, list := PySem.W.mg_none_of X G z_list, min := PySem.W.mg_none_of X G z_min, range := PySem.W.mg_none_of X G z_range, repr := PySem.W.mg_none_of X G z_repr, sorted := PySem.W.mg_none_of X G z_sorted, sum := PySem.W.mg_none_of X G z_sum, tuple := PySem.W.mg_none_of X G z_tuple, MOST_COIN := mM_MOST_COIN, MOST_LEAST := m_MOST_LEAST.imp fun _ z => PySem.W.mg_of X G z, MOST_COINS := m_MOST_COINS.imp fun _ z => PySem.W.mg_of X G z, MOST_MODULUS := m_MOST_MODULUS.imp fun _ z => PySem.W.mg_of X G z, MOST_SIZE := mM_MOST_SIZE }
  have TW : Wt K mg aCoinError aTooMany aBadNumber := { isinstance := Tb.isinstance, ce := PySem.W.mg_of X G nCoinError, ve := PySem.W.mg_none_of X G w_ve, g_TooMany := PySem.W.mg_of X G nTooMany, x_TooMany := w_x_TooMany, v_TooMany := w_v_TooMany, e_TooMany := excDB_ok w_e_TooMany, k_TooMany_TooMany := w_k_TooMany_TooMany, k_TooMany_BadNumber := w_k_TooMany_BadNumber, g_BadNumber := PySem.W.mg_of X G nBadNumber, x_BadNumber := w_x_BadNumber, v_BadNumber := w_v_BadNumber, e_BadNumber := excDB_ok w_e_BadNumber, k_BadNumber_TooMany := w_k_BadNumber_TooMany, k_BadNumber_BadNumber := w_k_BadNumber_BadNumber, fC := xfB_ok w_fC, nC := atTooMany }
  have sB : ∀ p ∈ ([(cT57, Pt57), (cT58, Pt58), (cT59, Pt59)] : List (Addr × Addr)), h.get? p.2 = some { cls := .none, data := .fields #[] } := by
    intro p hp
    simp only [List.mem_cons, List.not_mem_nil, or_false] at hp
    rcases hp with rfl | rfl | rfl
    · exact hcB57
    · exact hcB58
    · exact hcB59
  have sN : ∀ p ∈ ([(cT57, Pt57), (cT58, Pt58), (cT59, Pt59)] : List (Addr × Addr)), K.lookup p.2 = none := by
    intro p hp
    simp only [List.mem_cons, List.not_mem_nil, or_false] at hp
    rcases hp with rfl | rfl | rfl
    · exact nP57
    · exact nP58
    · exact nP59
  have sA : ∀ p ∈ ([(cT57, Pt57), (cT58, Pt58), (cT59, Pt59)] : List (Addr × Addr)), PySem.W.CodeHd h p.1 p.2 := by
    intro p hp
    simp only [List.mem_cons, List.not_mem_nil, or_false] at hp
    rcases hp with rfl | rfl | rfl
    · exact hcA57
    · exact hcA58
    · exact hcA59
  refine ⟨PySem.W.fnOf "law" "law" (defArgs (topS 60)) (defBody (topS 60)) (defScope (topS 60)) .none kV60 dc60 pm60 an60 cd60 ct60, [(cT57, Pt57), (cT58, Pt58), (cT59, Pt59)], sB, sN, sA, (fun p hp => by have := hcov p hp; simpa using this), fun _ _ => PySem.BindsTo.of_eq rfl, fun base XB GB TBs => ?_⟩
  have E_BadNumber : EX0 l.prog w K mg base "BadNumber" aBadNumber := fun X' e1 e2 e3 e4 e5 => ⟨by rw [e4]; exact PySem.W.mg_of X G nBadNumber, by rw [e3]; exact qBadNumber, by rw [e3]; exact kBadNumber, by rw [e3]; exact sBadNumber, by rw [e3]; exact tBadNumber⟩
  have E_NoSystem : EX0 l.prog w K mg base "NoSystem" aNoSystem := fun X' e1 e2 e3 e4 e5 => ⟨by rw [e4]; exact PySem.W.mg_of X G nNoSystem, by rw [e3]; exact qNoSystem, by rw [e3]; exact kNoSystem, by rw [e3]; exact sNoSystem, by rw [e3]; exact tNoSystem⟩
  have FIBadCoins := fun_mk (st := s_init_BadCoins) lIBadCoins cIBadCoins kIBadCoins
  have bIBadCoins := FIBadCoins.binds (ps := (["self", "at"] : List Str)) fun _ _ _ _ _ _ us hl => match us, hl with | [_, _], _ => rfl
  have oIBadCoins : VL.FnOk l.prog w K mg base (L2N.CX l.prog w) 1 fIBadCoins _ (["self", "at"] : List Str) (spInit K "at") := ok_init FIBadCoins sc_init_BadCoins fun X' hN' hs' => pss_one (ps_ost (pe_var (by rw [hN']; rfl) (by rw [hs']; exact .inl rfl) (by decide) (by decide)) (pe_var (by rw [hN']; rfl) (by rw [hs']; exact .inl rfl) (by decide) (by decide)))
  have E_BadCoins : EX1 l.prog w K mg base "BadCoins" "at" aBadCoins := fun X' e1 e2 e3 e4 e5 => xi_mk e1 e2 e3 e4 e5 (PySem.W.mg_of X G nBadCoins) ⟨⟨nmBadCoins, qnBadCoins, N0BadCoins, bsBadCoins, _, snBadCoins, subBadCoins, abBadCoins, colBadCoins, ddBadCoins, m0BadCoins, m1BadCoins, m2BadCoins, m3BadCoins, m5BadCoins, xLBadCoins, hbmBadCoins⟩, saBadCoins, sBadCoins, tBadCoins, kBadCoins⟩ atBadCoins iBadCoins tIBadCoins oIBadCoins bIBadCoins
  have FITooMany := fun_mk (st := s_init_TooMany) lITooMany cITooMany kITooMany
  have bITooMany := FITooMany.binds (ps := (["self", "most"] : List Str)) fun _ _ _ _ _ _ us hl => match us, hl with | [_, _], _ => rfl
  have oITooMany : VL.FnOk l.prog w K mg base (L2N.CX l.prog w) 1 fITooMany _ (["self", "most"] : List Str) (spInit K "most") := ok_init FITooMany sc_init_TooMany fun X' hN' hs' => pss_one (ps_ost (pe_var (by rw [hN']; rfl) (by rw [hs']; exact .inl rfl) (by decide) (by decide)) (pe_var (by rw [hN']; rfl) (by rw [hs']; exact .inl rfl) (by decide) (by decide)))
  have E_TooMany : EX1 l.prog w K mg base "TooMany" "most" aTooMany := fun X' e1 e2 e3 e4 e5 => xi_mk e1 e2 e3 e4 e5 (PySem.W.mg_of X G nTooMany) ⟨⟨nmTooMany, qnTooMany, N0TooMany, bsTooMany, _, snTooMany, subTooMany, abTooMany, colTooMany, ddTooMany, m0TooMany, m1TooMany, m2TooMany, m3TooMany, m5TooMany, xLTooMany, hbmTooMany⟩, saTooMany, sTooMany, tTooMany, kTooMany⟩ atTooMany iTooMany tITooMany oITooMany bITooMany
  have S_System : SysC K mg aSystem := ⟨⟨⟨⟨ypgSystem, yhdSystem, ypoSystem, ysaSystem⟩, yhaSystem, yhnSystem, ytkSystem, ymrSystem, ymeSystem⟩, ynoSystem⟩, yfSystemcoins, yfSystemneeded_coins, yfSystemrests, PySem.W.mg_of X G nSystem⟩
  have FYSystem := fun_mk (st := s_System_init) ylSystem ycSystem ykSystem
  have bYSystem := FYSystem.binds (ps := ["self", "coins"]) fun _ _ _ _ _ _ us hl => match us, hl with | [_, _], _ => rfl
  have FQSystem := fun_mk (st := s_System_eq) qlSystem qcSystem qkSystem
  have bQSystem := FQSystem.binds (ps := ["self", "other"]) fun _ _ _ _ _ _ us hl => match us, hl with | [_, _], _ => rfl
  have TB57 := TBs (cT57, Pt57) (by simp)
  have TB58 := TBs (cT58, Pt58) (by simp)
  have TB59 := TBs (cT59, Pt59) (by simp)
  have o_is_integer := ok_is_integer (P := l.prog) (w := w) (base := base)  Tb F1 b1 G1
  have o_is_within := ok_is_within (P := l.prog) (w := w) (base := base)  Tb o_is_integer F2 b2 G2
  have o_common := ok_common (P := l.prog) (w := w) (base := base)  Tb F3 b3 G3
  have o_common_of := ok_common_of (P := l.prog) (w := w) (base := base)  Tb o_common F4 b4 G4
  have o_round_up := ok_round_up (P := l.prog) (w := w) (base := base)  Tb o_common_of F15 b15 G15
  have o_built := ok_built (P := l.prog) (w := w) (base := base)  Tb o_round_up F16 b16 G16
  have o_check_coins := ok_check_coins (P := l.prog) (w := w) (base := base)  Tb o_is_within o_common_of F17 b17 G17
  have o_check_system := ok_check_system (P := l.prog) (w := w) (base := base) (aNoSystem := aNoSystem) (aSystem := aSystem) Tb S_System E_NoSystem F19 b19 G19
  have o_check_sum := ok_check_sum (P := l.prog) (w := w) (base := base) (aBadNumber := aBadNumber) (aNoSystem := aNoSystem) (aSystem := aSystem) Tb S_System E_BadNumber o_check_system o_is_integer F20 b20 G20
  have o_pays_of := ok_pays_of (P := l.prog) (w := w) (base := base) (aSystem := aSystem) Tb S_System F21 b21 G21
  have o_pays := ok_pays (P := l.prog) (w := w) (base := base) (aSystem := aSystem) Tb o_check_sum o_pays_of F22 b22 G22
  have o_needed := ok_needed (P := l.prog) (w := w) (base := base) (aSystem := aSystem) Tb S_System o_check_system F23 b23 G23
  have o_gaps_number_of := ok_gaps_number_of (P := l.prog) (w := w) (base := base) (aSystem := aSystem) Tb S_System F25 b25 G25
  have o_gaps_number := ok_gaps_number (P := l.prog) (w := w) (base := base) (aSystem := aSystem) Tb S_System o_check_system o_gaps_number_of F26 b26 G26
  have o_least_coins := ok_least_coins (P := l.prog) (w := w) (base := base)  Tb F28 b28 G28
  have o_check_rule := ok_check_rule (P := l.prog) (w := w) (base := base) (aBadNumber := aBadNumber) Tb E_BadNumber o_is_within F32 b32 G32
  have o_rule_holds := ok_rule_holds (P := l.prog) (w := w) (base := base) (aBadNumber := aBadNumber) Tb E_BadNumber o_check_rule o_is_within F33 b33 G33
  have o_System_init := ok_System_init (P := l.prog) (w := w) (base := base) (aSystem := aSystem)  Tb S_System o_check_coins o_built FYSystem
  have Y_System : MkS l.prog w K mg base 5 aSystem := ⟨S_System, fISystem, _, ⟨ymkSystem, yiSystem, yfnSystem, ykpSystem⟩, o_System_init, bYSystem⟩
  have o_rule_system := ok_rule_system (P := l.prog) (w := w) (base := base) (aBadNumber := aBadNumber) (aTooMany := aTooMany) (aSystem := aSystem) Tb E_TooMany Y_System o_check_rule o_least_coins F34 b34 G34
  have o_rule_gaps := ok_rule_gaps (P := l.prog) (w := w) (base := base) (aBadNumber := aBadNumber) Tb o_check_rule o_common F35 b35 G35
  have o_rule_mirror := ok_rule_mirror (P := l.prog) (w := w) (base := base) (aBadNumber := aBadNumber) Tb E_BadNumber o_check_rule o_is_within F36 b36 G36
  have o_least_kept := ok_least_kept (P := l.prog) (w := w) (base := base) (aBadNumber := aBadNumber) (aTooMany := aTooMany) Tb E_TooMany o_check_rule F37 b37 G37
  have o_same_rule := ok_same_rule (P := l.prog) (w := w) (base := base) (aBadNumber := aBadNumber) (aTooMany := aTooMany) Tb E_TooMany o_check_rule F38 b38 G38
  have o_twin_factor := ok_twin_factor (P := l.prog) (w := w) (base := base) (aBadNumber := aBadNumber) Tb o_check_rule F39 b39 G39
  have o_System_eq := ok_System_eq (P := l.prog) (w := w) (base := base) (aSystem := aSystem) Tb S_System FQSystem
  have Q_System : EqOwn l.prog w K mg base 1 aSystem (A_System_eq aSystem) := ⟨fQSystem, _, _, o_System_eq, qiSystem, qfnSystem, bQSystem⟩
  have o_gap_ways := ok_gap_ways (P := l.prog) (w := w) (base := base) (aBadNumber := aBadNumber) (aSystem := aSystem) Tb S_System E_BadNumber Q_System o_is_within o_rule_system F40 b40 G40
  have o_law_hand := ok_law_hand (P := l.prog) (w := w) (base := base)  Tb F42 b42 G42
  have o_law_draw := ok_law_draw (P := l.prog) (w := w) (base := base)  Tb F43 b43 G43
  have o_law_any := ok_law_any (P := l.prog) (w := w) (base := base)  Tb o_law_draw F44 b44 G44
  have o_law_great := ok_law_great (P := l.prog) (w := w) (base := base)  Tb o_law_draw F45 b45 G45
  have o_law_keeps := ok_law_keeps (P := l.prog) (w := w) (base := base)  Tb F46 b46 G46
  have o_law_common := ok_law_common (P := l.prog) (w := w) (base := base)  Tb F47 b47 G47
  have o_law_needed := ok_law_needed (P := l.prog) (w := w) (base := base)  Tb F48 b48 G48
  have o_law_kept := ok_law_kept (P := l.prog) (w := w) (base := base)  Tb o_law_keeps F49 b49 G49
  have o_law_by_divisors := ok_law_by_divisors (P := l.prog) (w := w) (base := base)  Tb o_law_common F50 b50 G50
  have o_law_rule_right := ok_law_rule_right (P := l.prog) (w := w) (base := base)  Tb o_law_any o_law_kept o_law_needed o_rule_system o_rule_gaps o_least_kept o_pays o_needed o_gaps_number F51 b51 G51
  have o_law_numbers_right := ok_law_numbers_right (P := l.prog) (w := w) (base := base)  Tb o_law_draw o_rule_holds o_rule_mirror o_law_keeps F52 b52 G52
  have o_law_twin_right := ok_law_twin_right (P := l.prog) (w := w) (base := base)  Tb o_law_draw o_twin_factor o_law_keeps o_same_rule F53 b53 G53
  have o_law_same_right := ok_law_same_right (P := l.prog) (w := w) (base := base)  Tb o_law_draw o_law_kept o_same_rule F54 b54 G54
  have o_law_ways_right := ok_law_ways_right (P := l.prog) (w := w) (base := base)  Tb Y_System o_law_draw o_law_any o_law_kept o_rule_system o_gap_ways o_pays F55 b55 G55
  have o_law_word_of := ok_law_word_of (P := l.prog) (w := w) (base := base)  Tb TW F56 b56 G56 TB58 hP58 hu58 rfl o_rule_system F58 b58 G58
  have o_law_word_great := ok_law_word_great (P := l.prog) (w := w) (base := base) (aBadNumber := aBadNumber) (aTooMany := aTooMany) Tb TW F56 b56 G56 TB59 hP59 hu59 rfl F59 b59 G59
  have o_law_refused_right := ok_law_refused_right (P := l.prog) (w := w) (base := base)  Tb Y_System TW F56 b56 G56 TB57 hP57 hu57 rfl o_law_any o_law_word_of o_law_word_great o_rule_system o_rule_holds o_rule_gaps o_rule_mirror o_twin_factor o_same_rule o_least_kept o_gap_ways F57 b57 G57
  exact ok_law (P := l.prog) (w := w) (base := base)  Tb o_law_hand o_law_draw o_law_any o_law_great o_law_by_divisors o_law_rule_right o_law_numbers_right o_law_twin_right o_law_same_right o_law_ways_right o_law_refused_right o_rule_system o_rule_gaps o_rule_mirror o_twin_factor o_needed F60 b60 G60
end KK
end

section
set_option Elab.async false
set_option linter.all false
open PySem PySem.W PyProof.Rows
set_option maxRecDepth 100000 in
set_option maxHeartbeats 0 in
theorem PySem.Challenge.cw_paidornot_k77_whole_rules_by_one_rest_holds : PySem.Challenge.rw_paidornot_k77_whole_rules_by_one_rest.Holds := by
  w_on; o_law; k_head; (case hw => w_witness2)
  k_fill
  refine VL.walk_vl (l := PySem.Challenge.rw_paidornot_k77_whole_rules_by_one_rest) (k := 13) (x := "script") rfl rfl ⟨⟨rfl, by decide, by decide⟩, rfl⟩ (fun w h Y => PySem.W.km_in_of Y) ?F
  case F =>
    intro w mg fa h Y Xp KX G hmg HT
    have mM_MOST_COIN : ∃ t, mg "MOST_COIN" = some (.int 1000000 t) := by
      obtain ⟨v, h1, h2⟩ := Xp.2.val _ (List.mem_cons_self)
      cases h2 with
      | int i t => exact ⟨t, h1⟩
    have mM_MOST_SIZE : ∃ t, mg "MOST_SIZE" = some (.int KK.c_MOST_SIZE t) := by
      obtain ⟨v, h1, h2⟩ := Xp.2.val _ (List.mem_cons_of_mem _ (List.mem_cons_self))
      cases h2 with
      | int i t => exact ⟨t, h1⟩
    refine' KK.all_mk (Pt57 := 376) (Pt58 := 383) (Pt59 := 390) KX G hmg mM_MOST_COIN mM_MOST_SIZE ?a1 ?l1 ?c1 ?k1 ?a2 ?l2 ?c2 ?k2 ?a3 ?l3 ?c3 ?k3 ?a4 ?l4 ?c4 ?k4 ?a15 ?l15 ?c15 ?k15 ?a16 ?l16 ?c16 ?k16 ?a17 ?l17 ?c17 ?k17 ?a19 ?l19 ?c19 ?k19 ?a20 ?l20 ?c20 ?k20 ?a21 ?l21 ?c21 ?k21 ?a22 ?l22 ?c22 ?k22 ?a23 ?l23 ?c23 ?k23 ?a25 ?l25 ?c25 ?k25 ?a26 ?l26 ?c26 ?k26 ?a28 ?l28 ?c28 ?k28 ?a32 ?l32 ?c32 ?k32 ?a33 ?l33 ?c33 ?k33 ?a34 ?l34 ?c34 ?k34 ?a35 ?l35 ?c35 ?k35 ?a36 ?l36 ?c36 ?k36 ?a37 ?l37 ?c37 ?k37 ?a38 ?l38 ?c38 ?k38 ?a39 ?l39 ?c39 ?k39 ?a40 ?l40 ?c40 ?k40 ?a42 ?l42 ?c42 ?k42 ?a43 ?l43 ?c43 ?k43 ?a44 ?l44 ?c44 ?k44 ?a45 ?l45 ?c45 ?k45 ?a46 ?l46 ?c46 ?k46 ?a47 ?l47 ?c47 ?k47 ?a48 ?l48 ?c48 ?k48 ?a49 ?l49 ?c49 ?k49 ?a50 ?l50 ?c50 ?k50 ?a51 ?l51 ?c51 ?k51 ?a52 ?l52 ?c52 ?k52 ?a53 ?l53 ?c53 ?k53 ?a54 ?l54 ?c54 ?k54 ?a55 ?l55 ?c55 ?k55 ?a56 ?l56 ?c56 ?k56 ?a57 ?l57 ?c57 ?k57 ?a58 ?l58 ?c58 ?k58 ?a59 ?l59 ?c59 ?k59 ?a60 ?l60 ?c60 ?k60 ?nCoinError ?nBadNumber ?qBadNumber ?kBadNumber ?sBadNumber ?tBadNumber ?nNoSystem ?qNoSystem ?kNoSystem ?sNoSystem ?tNoSystem ?nBadCoins ?xLBadCoins ?hbmBadCoins ?saBadCoins ?sBadCoins ?tBadCoins ?kBadCoins ?atBadCoins ?iBadCoins ?tIBadCoins ?lIBadCoins ?cIBadCoins ?kIBadCoins ?nTooMany ?xLTooMany ?hbmTooMany ?saTooMany ?sTooMany ?tTooMany ?kTooMany ?atTooMany ?iTooMany ?tITooMany ?lITooMany ?cITooMany ?kITooMany ?nSystem ?yiSystem ?ylSystem ?ycSystem ?ykSystem ?ypgSystem ?yhdSystem ?ypoSystem ?ysaSystem ?yhaSystem ?ymrSystem ?ymkSystem ?ykpSystem ?yhnSystem ?ytkSystem ?ymeSystem ?ynoSystem ?yfnSystem ?yfSystemcoins ?yfSystemneeded_coins ?yfSystemrests ?qiSystem ?qlSystem ?qcSystem ?qkSystem ?qfnSystem ?w_ve ?w_x_TooMany ?w_v_TooMany ?w_e_TooMany ?w_k_TooMany_TooMany ?w_k_TooMany_BadNumber ?w_x_BadNumber ?w_v_BadNumber ?w_e_BadNumber ?w_k_BadNumber_TooMany ?w_k_BadNumber_BadNumber ?w_fC ?tab57 ?nP57 ?tab58 ?nP58 ?tab59 ?nP59 ?z_ValueError ?z_abs ?z_all ?z_any ?z_bool ?z_enumerate ?z_int ?z_isinstance ?z_len ?z_list ?z_min ?z_range ?z_repr ?z_sorted ?z_sum ?z_tuple ?m_MOST_LEAST ?m_MOST_COINS ?m_MOST_MODULUS ?hT57 ?hP57 ?hu57 ?hT58 ?hP58 ?hu58 ?hT59 ?hP59 ?hu59 ?hcov
    case a1 => k_is
    case l1 => k_is
    case c1 => k_is
    case k1 => k_is
    case a2 => k_is
    case l2 => k_is
    case c2 => k_is
    case k2 => k_is
    case a3 => k_is
    case l3 => k_is
    case c3 => k_is
    case k3 => k_is
    case a4 => k_is
    case l4 => k_is
    case c4 => k_is
    case k4 => k_is
    case a15 => k_is
    case l15 => k_is
    case c15 => k_is
    case k15 => k_is
    case a16 => k_is
    case l16 => k_is
    case c16 => k_is
    case k16 => k_is
    case a17 => k_is
    case l17 => k_is
    case c17 => k_is
    case k17 => k_is
    case a19 => k_is
    case l19 => k_is
    case c19 => k_is
    case k19 => k_is
    case a20 => k_is
    case l20 => k_is
    case c20 => k_is
    case k20 => k_is
    case a21 => k_is
    case l21 => k_is
    case c21 => k_is
    case k21 => k_is
    case a22 => k_is
    case l22 => k_is
    case c22 => k_is
    case k22 => k_is
    case a23 => k_is
    case l23 => k_is
    case c23 => k_is
    case k23 => k_is
    case a25 => k_is
    case l25 => k_is
    case c25 => k_is
    case k25 => k_is
    case a26 => k_is
    case l26 => k_is
    case c26 => k_is
    case k26 => k_is
    case a28 => k_is
    case l28 => k_is
    case c28 => k_is
    case k28 => k_is
    case a32 => k_is
    case l32 => k_is
    case c32 => k_is
    case k32 => k_is
    case a33 => k_is
    case l33 => k_is
    case c33 => k_is
    case k33 => k_is
    case a34 => k_is
    case l34 => k_is
    case c34 => k_is
    case k34 => k_is
    case a35 => k_is
    case l35 => k_is
    case c35 => k_is
    case k35 => k_is
    case a36 => k_is
    case l36 => k_is
    case c36 => k_is
    case k36 => k_is
    case a37 => k_is
    case l37 => k_is
    case c37 => k_is
    case k37 => k_is
    case a38 => k_is
    case l38 => k_is
    case c38 => k_is
    case k38 => k_is
    case a39 => k_is
    case l39 => k_is
    case c39 => k_is
    case k39 => k_is
    case a40 => k_is
    case l40 => k_is
    case c40 => k_is
    case k40 => k_is
    case a42 => k_is
    case l42 => k_is
    case c42 => k_is
    case k42 => k_is
    case a43 => k_is
    case l43 => k_is
    case c43 => k_is
    case k43 => k_is
    case a44 => k_is
    case l44 => k_is
    case c44 => k_is
    case k44 => k_is
    case a45 => k_is
    case l45 => k_is
    case c45 => k_is
    case k45 => k_is
    case a46 => k_is
    case l46 => k_is
    case c46 => k_is
    case k46 => k_is
    case a47 => k_is
    case l47 => k_is
    case c47 => k_is
    case k47 => k_is
    case a48 => k_is
    case l48 => k_is
    case c48 => k_is
    case k48 => k_is
    case a49 => k_is
    case l49 => k_is
    case c49 => k_is
    case k49 => k_is
    case a50 => k_is
    case l50 => k_is
    case c50 => k_is
    case k50 => k_is
    case a51 => k_is
    case l51 => k_is
    case c51 => k_is
    case k51 => k_is
    case a52 => k_is
    case l52 => k_is
    case c52 => k_is
    case k52 => k_is
    case a53 => k_is
    case l53 => k_is
    case c53 => k_is
    case k53 => k_is
    case a54 => k_is
    case l54 => k_is
    case c54 => k_is
    case k54 => k_is
    case a55 => k_is
    case l55 => k_is
    case c55 => k_is
    case k55 => k_is
    case a56 => k_is
    case l56 => k_is
    case c56 => k_is
    case k56 => k_is
    case a57 => k_is
    case l57 => k_is
    case c57 => k_is
    case k57 => k_is
    case a58 => k_is
    case l58 => k_is
    case c58 => k_is
    case k58 => k_is
    case a59 => k_is
    case l59 => k_is
    case c59 => k_is
    case k59 => k_is
    case a60 => k_is
    case l60 => k_is
    case c60 => k_is
    case k60 => k_is
    case nCoinError => k_is
    case nBadNumber => k_is
    case qBadNumber => k_exc
    case kBadNumber => k_is
    case sBadNumber => k_is
    case tBadNumber => k_is
    case nNoSystem => k_is
    case qNoSystem => k_exc
    case kNoSystem => k_is
    case sNoSystem => k_is
    case tNoSystem => k_is
    case nBadCoins => k_is
    case xLBadCoins => k_is
    case hbmBadCoins => kernel_rfl
    case saBadCoins => k_is
    case sBadCoins => k_is
    case tBadCoins => k_is
    case kBadCoins => k_is
    case atBadCoins => k_is
    case iBadCoins => k_is
    case tIBadCoins => k_is
    case lIBadCoins => k_is
    case cIBadCoins => k_is
    case kIBadCoins => k_is
    case nTooMany => k_is
    case xLTooMany => k_is
    case hbmTooMany => kernel_rfl
    case saTooMany => k_is
    case sTooMany => k_is
    case tTooMany => k_is
    case kTooMany => k_is
    case atTooMany => k_is
    case iTooMany => k_is
    case tITooMany => k_is
    case lITooMany => k_is
    case cITooMany => k_is
    case kITooMany => k_is
    case nSystem => k_is
    case yiSystem => k_is
    case ylSystem => k_is
    case ycSystem => k_is
    case ykSystem => k_is
    case ypgSystem => kernel_rfl
    case yhdSystem => kernel_rfl
    case ypoSystem => kernel_rfl
    case ysaSystem => kernel_rfl
    case yhaSystem => kernel_rfl
    case ymrSystem => kernel_rfl
    case ymkSystem => kernel_rfl
    case ykpSystem => kernel_rfl
    case yhnSystem => kernel_rfl
    case ytkSystem => kernel_rfl
    case ymeSystem => kernel_rfl
    case ynoSystem => kernel_rfl
    case yfnSystem => kernel_rfl
    case yfSystemcoins => kernel_rfl
    case yfSystemneeded_coins => kernel_rfl
    case yfSystemrests => kernel_rfl
    case qiSystem => k_is
    case qlSystem => k_is
    case qcSystem => k_is
    case qkSystem => k_is
    case qfnSystem => kernel_rfl
    case w_ve => k_is
    case w_x_TooMany => kernel_rfl
    case w_v_TooMany => kernel_rfl
    case w_e_TooMany => kernel_rfl
    case w_k_TooMany_TooMany => kernel_rfl
    case w_k_TooMany_BadNumber => kernel_rfl
    case w_x_BadNumber => kernel_rfl
    case w_v_BadNumber => kernel_rfl
    case w_e_BadNumber => kernel_rfl
    case w_k_BadNumber_TooMany => kernel_rfl
    case w_k_BadNumber_BadNumber => kernel_rfl
    case w_fC => kernel_rfl
    case tab57 => kernel_rfl
    case nP57 => kernel_rfl
    case tab58 => kernel_rfl
    case nP58 => kernel_rfl
    case tab59 => kernel_rfl
    case nP59 => kernel_rfl
    case z_ValueError => k_is
    case z_abs => k_is
    case z_all => k_is
    case z_any => k_is
    case z_bool => k_is
    case z_enumerate => k_is
    case z_int => k_is
    case z_isinstance => k_is
    case z_len => k_is
    case z_list => k_is
    case z_min => k_is
    case z_range => k_is
    case z_repr => k_is
    case z_sorted => k_is
    case z_sum => k_is
    case z_tuple => k_is
    case m_MOST_LEAST => exact ⟨_, by k_is⟩
    case m_MOST_COINS => exact ⟨_, by k_is⟩
    case m_MOST_MODULUS => exact ⟨_, by k_is⟩
    case hT57 => exact fun _ => ⟨PySem.W.codeHd_of_K KX (by kernel_rfl), PySem.W.km_tabs_of Y _ (by k_mem)⟩
    case hP57 => decide +kernel
    case hu57 => decide +kernel
    case hT58 => exact fun _ => ⟨PySem.W.codeHd_of_K KX (by kernel_rfl), PySem.W.km_tabs_of Y _ (by k_mem)⟩
    case hP58 => decide +kernel
    case hu58 => decide +kernel
    case hT59 => exact fun _ => ⟨PySem.W.codeHd_of_K KX (by kernel_rfl), PySem.W.km_tabs_of Y _ (by k_mem)⟩
    case hP59 => decide +kernel
    case hu59 => decide +kernel
    case hcov => decide +kernel
end
