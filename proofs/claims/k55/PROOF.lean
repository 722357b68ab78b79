import PyProof.Rows.All
import Wide.All
import OpenK.AllK
import Wide.FinOn
import HandS.ForMost
import HandS.ForExc
import HandS.TupAny
import HandS.IsInst
import HandS.Wide
import HandS.WideBits
import HandS.TupMul
import HandS.Style
import HandS.CallSlots
import HandS.Codes
import HandS.EndBits
import HandS.ExcIs
import HandS.ExcField
import HandS.TryMany
import HandS.Defaults
import PySem.Challenge.RW_proofchoosers_k55_endless_rows_in_least
set_option Elab.async false
set_option linter.all false
set_option maxRecDepth 100000
namespace DL
open PySem L2

/-- plain data: tuples are values, mutable things are addresses -/
inductive D where
  | non | bl (b : Bool) | int (i : Int) | str (x : Str) | tup (xs : List D) | ref (a : Addr) | ty (n : String)

section
variable (K : PySem.W.Frag) (H : Hp)
mutual
inductive Rp : V → D → Prop
  | non : Rp .non .non
  | bl (b) : Rp (.bl b) (.bl b)
  | int (i) : Rp (.int i) (.int i)
  | str (x) : Rp (.str x) (.str x)
  | ref (a) : Rp (.ref a) (.ref a)
  | ty (n) : Rp (.ty n) (.ty n)
  | tup {a : Addr} {xs : List V} {ds : List D} : SqT K H a xs → RpL xs ds → Rp (.ref a) (.tup ds)
inductive RpL : List V → List D → Prop
  | nil : RpL [] []
  | cons {x : V} {d : D} {xs : List V} {ds : List D} : Rp x d → RpL xs ds → RpL (x :: xs) (d :: ds)
end
/-- tuples stay -/
def TExt (H H' : Hp) : Prop := ∀ a xs, SqT K H a xs → SqT K H' a xs
end
section
variable {K : PySem.W.Frag} {H H' H1 H2 : Hp}
theorem TExt.refl : TExt K H H := fun _ _ h => h
theorem TExt.trans (a : TExt K H H1) (b : TExt K H1 H2) : TExt K H H2 := fun p xs h => b p xs (a p xs h)
mutual
theorem Rp.mono (e : TExt K H H') : ∀ {v : V} {d : D}, Rp K H v d → Rp K H' v d
  | _, _, .non => .non
  | _, _, .bl b => .bl b
  | _, _, .int b => .int b
  | _, _, .str b => .str b
  | _, _, .ref b => .ref b
  | _, _, .ty b => .ty b
  | _, _, .tup h l => .tup (e _ _ h) (RpL.mono e l)
theorem RpL.mono (e : TExt K H H') : ∀ {v : List V} {d : List D}, RpL K H v d → RpL K H' v d
  | _, _, .nil => .nil
  | _, _, .cons h l => .cons (Rp.mono e h) (RpL.mono e l)
end
/-- writing at a place that is no tuple's -/
def NoTup (o : Option HO) : Prop := match o with
  | some (.tup _) => False
  | some (.frz _ _) => False
  | _ => True
theorem TExt.upd {p : Addr} {o : HO} (h : NoTup (H p)) : TExt K H (upd H p o) := by
  intro a xs hs
  rcases hs with (hs | ⟨q, hs⟩) | hs
  · refine .inl (.inl ?_)
    rw [upd_ne]
    · exact hs
    · rintro rfl; rw [hs] at h; exact h
  · refine .inl (.inr ⟨q, ?_⟩)
    rw [upd_ne]
    · exact hs
    · rintro rfl; rw [hs] at h; exact h
  · exact .inr hs
theorem TExt.new {p : Addr} {o : HO} (h : H p = none) : TExt K H (L2.upd H p o) := TExt.upd (by rw [h]; trivial)

theorem RpL.length : ∀ {xs : List V} {ds : List D}, RpL K H xs ds → xs.length = ds.length
  | _, _, .nil => rfl
  | _, _, .cons _ l => by simp [RpL.length l]
theorem RpL.append : ∀ {xs ys : List V} {ds es : List D}, RpL K H xs ds → RpL K H ys es → RpL K H (xs ++ ys) (ds ++ es)
  | _, _, _, _, .nil, m => m
  | _, _, _, _, .cons r l, m => .cons r (RpL.append l m)
theorem RpL.take : ∀ {xs : List V} {ds : List D} (n : Nat), RpL K H xs ds → RpL K H (xs.take n) (ds.take n)
  | _, _, 0, _ => by simpa using RpL.nil
  | _, _, _ + 1, .nil => .nil
  | _, _, n + 1, .cons r l => .cons r (RpL.take n l)
theorem RpL.drop : ∀ {xs : List V} {ds : List D} (n : Nat), RpL K H xs ds → RpL K H (xs.drop n) (ds.drop n)
  | _, _, 0, h => by simpa using h
  | _, _, _ + 1, .nil => .nil
  | _, _, n + 1, .cons _ l => RpL.drop n l
theorem RpL.get : ∀ {xs : List V} {ds : List D} {i : Nat} {d : D}, RpL K H xs ds → ds[i]? = some d → ∃ x, xs[i]? = some x ∧ Rp K H x d
  | _, _, _, _, .nil, e => by simp at e
  | _, _, 0, _, .cons r _, e => by simp at e; subst e; exact ⟨_, rfl, r⟩
  | _, _, i + 1, d, .cons _ l, e => by
    obtain ⟨x, h1, h2⟩ := RpL.get (i := i) (d := d) l (by simpa using e)
    exact ⟨x, by simpa using h1, h2⟩
theorem RpL.set {x : V} {d : D} (r : Rp K H x d) : ∀ {xs : List V} {ds : List D} (i : Nat), RpL K H xs ds → RpL K H (xs.set i x) (ds.set i d)
  | _, _, _, .nil => .nil
  | _, _, 0, .cons _ l => .cons r l
  | _, _, i + 1, .cons q l => .cons q (RpL.set r i l)
theorem RpL.reverse {xs : List V} {ds : List D} (h : RpL K H xs ds) : RpL K H xs.reverse ds.reverse := by
  induction xs generalizing ds with
  | nil => cases h; exact .nil
  | cons x xs ih =>
    cases h with
    | cons r l => rw [List.reverse_cons, List.reverse_cons]; exact (ih l).append (.cons r .nil)
theorem RpL.dropLast : ∀ {xs : List V} {ds : List D}, RpL K H xs ds → RpL K H xs.dropLast ds.dropLast
  | _, _, .nil => .nil
  | _, _, .cons _ .nil => .nil
  | _, _, .cons r (.cons q l) => .cons r (RpL.dropLast (.cons q l))
theorem RpL.rep {xs : List V} {ds : List D} (h : RpL K H xs ds) : ∀ k : Nat, RpL K H (List.replicate k xs).flatten (List.replicate k ds).flatten
  | 0 => .nil
  | k + 1 => by rw [List.replicate_succ, List.replicate_succ, List.flatten_cons, List.flatten_cons]; exact h.append (RpL.rep h k)
theorem RpL.isEmpty {xs : List V} {ds : List D} (h : RpL K H xs ds) : xs.isEmpty = ds.isEmpty := by
  cases h <;> rfl
theorem RpL.nil_of {xs : List V} (h : RpL K H xs []) : xs = [] := by cases h; rfl
theorem RpL.ints : ∀ {xs : List V} {ns : List Int}, RpL K H xs (ns.map D.int) → xs = ns.map V.int
  | _, [], .nil => rfl
  | _, n :: ns, .cons (.int _) l => by rw [RpL.ints l]; rfl
theorem RpL.strs : ∀ {xs : List V} {ns : List Str}, RpL K H xs (ns.map D.str) → xs = ns.map V.str
  | _, [], .nil => rfl
  | _, n :: ns, .cons (.str _) l => by rw [RpL.strs l]; rfl
theorem RpL.bls : ∀ {xs : List V} {ns : List Bool}, RpL K H xs (ns.map D.bl) → xs = ns.map V.bl
  | _, [], .nil => rfl
  | _, n :: ns, .cons (.bl _) l => by rw [RpL.bls l]; rfl
theorem RpL.ofInts : ∀ {ns : List Int}, RpL K H (ns.map V.int) (ns.map D.int)
  | [] => .nil
  | n :: ns => .cons (.int n) RpL.ofInts
theorem RpL.ofStrs : ∀ {ns : List Str}, RpL K H (ns.map V.str) (ns.map D.str)
  | [] => .nil
  | n :: ns => .cons (.str n) RpL.ofStrs
end

/-! ### the mutable part -/
inductive MO where
  /-- a list -/
  | lst (xs : List D)
  /-- a list that is read only -/
  | rol (xs : List D)
  /-- a dict with keys that are ints or texts -/
  | dk (kvs : List (Key × D))
  /-- an instance of the class at C -/
  | ins (C : Addr) (fs : List (Str × D))
  /-- the attributes of an exception -/
  | xd (fs : List (Str × D))
abbrev Mp := Addr → Option MO
def put (M : Mp) (a : Addr) (o : MO) : Mp := fun b => if b = a then some o else M b
theorem put_same {M : Mp} {a : Addr} {o : MO} : put M a o a = some o := by unfold put; rw [if_pos rfl]
theorem put_ne {M : Mp} {a b : Addr} {o : MO} (h : b ≠ a) : put M a o b = M b := by unfold put; rw [if_neg h]
theorem put_put {M : Mp} {a : Addr} {o u : MO} : put (put M a o) a u = put M a u := by
  funext b; unfold put; split <;> rfl
def KD (K : PySem.W.Frag) (H : Hp) : List (Key × V) → List (Key × D) → Prop
  | [], [] => True
  | p :: ps, q :: qs => p.1 = q.1 ∧ Rp K H p.2 q.2 ∧ KD K H ps qs
  | _, _ => False
def FD (K : PySem.W.Frag) (H : Hp) : List (Str × V) → List (Str × D) → Prop
  | [], [] => True
  | p :: ps, q :: qs => p.1 = q.1 ∧ Rp K H p.2 q.2 ∧ FD K H ps qs
  | _, _ => False
theorem KD.mono {K : PySem.W.Frag} {H H' : Hp} (e : TExt K H H') : ∀ {ps : List (Key × V)} {qs : List (Key × D)}, KD K H ps qs → KD K H' ps qs
  | [], [], h => h
  | p :: ps, q :: qs, h => ⟨h.1, h.2.1.mono e, KD.mono e h.2.2⟩
  | [], _ :: _, h => h.elim
  | _ :: _, [], h => h.elim
theorem FD.mono {K : PySem.W.Frag} {H H' : Hp} (e : TExt K H H') : ∀ {ps : List (Str × V)} {qs : List (Str × D)}, FD K H ps qs → FD K H' ps qs
  | [], [], h => h
  | p :: ps, q :: qs, h => ⟨h.1, h.2.1.mono e, FD.mono e h.2.2⟩
  | [], _ :: _, h => h.elim
  | _ :: _, [], h => h.elim
def MR (K : PySem.W.Frag) (H : Hp) (a : Addr) : MO → Prop
  | .lst ds => ∃ xs, H a = some (.lst xs) ∧ RpL K H xs ds
  | .rol ds => ∃ o xs, H a = some (.frz o (.lst xs)) ∧ RpL K H xs ds
  | .dk kvs => ∃ vs, H a = some (.dK vs) ∧ KD K H vs kvs
  | .ins C fs => ∃ dx vs, H a = some (.ins C dx vs) ∧ FD K H vs fs
  | .xd fs => ∃ vs, H a = some (.xd vs) ∧ FD K H vs fs
def HR (K : PySem.W.Frag) (H : Hp) (M : Mp) : Prop := ∀ a o, M a = some o → MR K H a o
def Sub (M M' : Mp) : Prop := ∀ a o, M a = some o → M' a = some o
theorem Sub.refl {M : Mp} : Sub M M := fun _ _ h => h
theorem Sub.trans {M1 M2 M3 : Mp} (a : Sub M1 M2) (b : Sub M2 M3) : Sub M1 M3 := fun p o h => b p o (a p o h)
theorem Sub.none {M M' : Mp} (s : Sub M M') {p : Addr} (h : M' p = .none) : M p = .none := by
  cases e : M p with
  | none => rfl
  | some o => rw [s p o e] at h; cases h
theorem Sub.put {M M' : Mp} {p : Addr} {o : MO} (s : Sub M M') (h : M' p = .none) : Sub M (DL.put M' p o) := fun a u e => by
  have e' := s a u e
  rw [put_ne]
  · exact e'
  · rintro rfl; rw [e'] at h; cases h
theorem Sub.put2 {M M' : Mp} {p : Addr} {o : MO} (s : Sub M M') (h : M p = .none) : Sub M (DL.put M' p o) := fun a u e => by
  have e' := s a u e
  rw [put_ne]
  · exact e'
  · rintro rfl; rw [e] at h; cases h
theorem Sub.both {M M' : Mp} {p : Addr} {o : MO} (s : Sub M M') : Sub (DL.put M p o) (DL.put M' p o) := fun a u e => by
  by_cases c : a = p
  · subst c; rw [put_same] at e ⊢; exact e
  · rw [put_ne c] at e ⊢; exact s a u e
theorem HR.sub {K : PySem.W.Frag} {H : Hp} {M M' : Mp} (h : HR K H M') (s : Sub M M') : HR K H M := fun a o e => h a o (s a o e)
theorem HR.free {K : PySem.W.Frag} {H : Hp} {M : Mp} (h : HR K H M) {p : Addr} (hp : H p = none) : M p = none := by
  cases e : M p with
  | none => rfl
  | some o =>
    have q := h p o e
    cases o with
    | lst ds => obtain ⟨_, q, _⟩ := q; rw [hp] at q; cases q
    | rol ds => obtain ⟨_, _, q, _⟩ := q; rw [hp] at q; cases q
    | dk ds => obtain ⟨_, q, _⟩ := q; rw [hp] at q; cases q
    | ins C ds => obtain ⟨_, _, q, _⟩ := q; rw [hp] at q; cases q
    | xd ds => obtain ⟨_, q, _⟩ := q; rw [hp] at q; cases q
theorem MR.away {K : PySem.W.Frag} {H : Hp} {a p : Addr} {o : MO} {u : HO} (h : MR K H a o) (e : TExt K H (upd H p u)) (ne : a ≠ p) : MR K (upd H p u) a o := by
  cases o with
  | lst ds => obtain ⟨xs, q, r⟩ := h; exact ⟨xs, (upd_ne ne).trans q, r.mono e⟩
  | rol ds => obtain ⟨o, xs, q, r⟩ := h; exact ⟨o, xs, (upd_ne ne).trans q, r.mono e⟩
  | dk ds => obtain ⟨xs, q, r⟩ := h; exact ⟨xs, (upd_ne ne).trans q, r.mono e⟩
  | ins C ds => obtain ⟨dx, xs, q, r⟩ := h; exact ⟨dx, xs, (upd_ne ne).trans q, r.mono e⟩
  | xd ds => obtain ⟨xs, q, r⟩ := h; exact ⟨xs, (upd_ne ne).trans q, r.mono e⟩
theorem HR.fresh {K : PySem.W.Frag} {H : Hp} {M : Mp} {p : Addr} {u : HO} (h : HR K H M) (hp : H p = none) : HR K (upd H p u) M := fun a o e =>
  (h a o e).away (.new hp) fun z => by subst z; rw [h.free hp] at e; cases e
theorem HR.made {K : PySem.W.Frag} {H : Hp} {M : Mp} {p : Addr} {u : HO} {o : MO} (h : HR K H M) (hp : NoTup (H p)) (n : MR K (upd H p u) p o) : HR K (upd H p u) (DL.put M p o) := fun a q e => by
  by_cases c : a = p
  · subst c; rw [put_same] at e; cases e; exact n
  · rw [put_ne c] at e; exact (h a q e).away (.upd hp) c
theorem noTup_none {H : Hp} {p : Addr} (h : H p = none) : NoTup (H p) := by rw [h]; trivial
theorem noTup_lst {H : Hp} {p : Addr} {xs : List V} (h : H p = some (.lst xs)) : NoTup (H p) := by rw [h]; trivial
theorem noTup_dK {H : Hp} {p : Addr} {xs : List (Key × V)} (h : H p = some (.dK xs)) : NoTup (H p) := by rw [h]; trivial
theorem noTup_ins {H : Hp} {p C dx : Addr} {xs : List (Str × V)} (h : H p = some (.ins C dx xs)) : NoTup (H p) := by rw [h]; trivial

/-! ### readings over plain data -/
abbrev Sl := List (Option D)
/-- an exception: its class, the attributes of its own -/
structure DX where
  cls : Value
  d : Option Addr
  fs : List (Str × D)
abbrev DK := D → Mp → Prop
abbrev EK := DX → Mp → Prop
abbrev DE := Sl → Mp → DK → EK → Prop
abbrev DT := Sl → Mp → (Bool → Mp → Prop) → EK → Prop
abbrev DA := Sl → Mp → (List D → Mp → Prop) → EK → Prop
structure DN where
  nx : Sl → Mp → Prop
  rt : DK
  bk : Sl → Mp → Prop := fun _ _ => False
  ct : Sl → Mp → Prop := fun _ _ => False
  ex : DX → Sl → Mp → Prop := fun _ _ _ => False
abbrev DS := DN → Sl → Mp → Prop
/-- what is wanted of an exception; tuples of the heap h0 still stand -/
structure DW where
  h0 : Hp
  w : DX → Sl → Mp → Prop
/-- the slots -/
structure RS (K : PySem.W.Frag) (H0 H : Hp) (σ : St) (τ : Sl) : Prop where
  ext : TExt K H0 H
  len : τ.length ≤ σ.length
  at_ : ∀ (i : Nat) (d : D), τ[i]? = some (some d) → ∃ v, σ[i]? = some (some v) ∧ Rp K H v d
section
variable (K : PySem.W.Frag)
def XR (H : Hp) (cls : Value) (d : Option Addr) (x : DX) : Prop := cls = x.cls ∧ d = x.d ∧ ∀ dx, d = some dx → ∃ vs, H dx = some (.xd vs) ∧ FD K H vs x.fs
/-- what the reading of an expression says of the heap's reading -/
def KC (H : Hp) (Qd : DK) (Q : VK) : Prop := ∀ d M' v H', Qd d M' → TExt K H H' → Rp K H' v d → HR K H' M' → Q v H'
def liftE (W : DW) (t : DE) : TE := fun σ H Q => ∃ τ M Qd Ed, RS K W.h0 H σ τ ∧ HR K H M ∧ t τ M Qd Ed ∧ (∀ x M', Ed x M' → W.w x τ M') ∧ KC K H Qd Q
def liftT (W : DW) (t : DT) : TT := fun σ H Q => ∃ τ M Qd Ed, RS K W.h0 H σ τ ∧ HR K H M ∧ t τ M Qd Ed ∧ (∀ x M', Ed x M' → W.w x τ M') ∧ (∀ b M' H', Qd b M' → TExt K H H' → HR K H' M' → Q b H')
def liftA (W : DW) (t : DA) : TA := fun σ H Q => ∃ τ M Qd Ed, RS K W.h0 H σ τ ∧ HR K H M ∧ t τ M Qd Ed ∧ (∀ x M', Ed x M' → W.w x τ M') ∧ (∀ ds M' vs H', Qd ds M' → TExt K H H' → RpL K H' vs ds → HR K H' M' → Q vs H')
def liftW (W : DW) : WX := fun cls d σ H => ∃ x τ M, RS K W.h0 H σ τ ∧ HR K H M ∧ XR K H cls d x ∧ W.w x τ M
structure NC (H0 H : Hp) (Dd : DN) (De : Ends) : Prop where
  nx : ∀ τ M σ H', Dd.nx τ M → TExt K H H' → RS K H0 H' σ τ → HR K H' M → De.nx σ H'
  rt : ∀ d M v H', Dd.rt d M → TExt K H H' → Rp K H' v d → HR K H' M → De.rt v H'
  bk : ∀ τ M σ H', Dd.bk τ M → TExt K H H' → RS K H0 H' σ τ → HR K H' M → De.bk σ H'
  ct : ∀ τ M σ H', Dd.ct τ M → TExt K H H' → RS K H0 H' σ τ → HR K H' M → De.ct σ H'
def liftS (W : DW) (t : DS) : TS := fun De σ H => ∃ τ M Dd, RS K W.h0 H σ τ ∧ HR K H M ∧ t Dd τ M ∧ (∀ x τ' M', Dd.ex x τ' M' → W.w x τ' M') ∧ NC K W.h0 H Dd De
end
section
variable {K : PySem.W.Frag} {H0 H H' : Hp} {σ : St} {τ : Sl}
theorem RS.mono (e : TExt K H H') (h : RS K H0 H σ τ) : RS K H0 H' σ τ := ⟨h.ext.trans e, h.len, fun i d q => by
  obtain ⟨v, a, b⟩ := h.at_ i d q
  exact ⟨v, a, b.mono e⟩⟩
theorem NC.mono {Dd : DN} {De : Ends} (e : TExt K H H') (h : NC K H0 H Dd De) : NC K H0 H' Dd De :=
  ⟨fun τ M σ H2 q x => h.nx τ M σ H2 q (e.trans x), fun d M v H2 q x => h.rt d M v H2 q (e.trans x), fun τ M σ H2 q x => h.bk τ M σ H2 q (e.trans x), fun τ M σ H2 q x => h.ct τ M σ H2 q (e.trans x)⟩
theorem KC.mono {Qd : DK} {Q : VK} (e : TExt K H H') (h : KC K H Qd Q) : KC K H' Qd Q := fun d M v H2 q x => h d M v H2 q (e.trans x)
theorem RS.set {i : Nat} {v : V} {d : D} (h : RS K H0 H σ τ) (r : Rp K H v d) : RS K H0 H (σ.set i (some v)) (τ.set i (some d)) := ⟨h.ext, by simpa using h.len, fun j e q => by
  by_cases c : i = j
  · subst c
    by_cases hi : i < τ.length
    · rw [List.getElem?_set_self hi] at q
      cases q
      exact ⟨v, List.getElem?_set_self (Nat.lt_of_lt_of_le hi h.len), r⟩
    · rw [List.getElem?_eq_none (by simpa using hi)] at q
      cases q
  · rw [List.getElem?_set_ne c] at q ⊢
    exact h.at_ j e q⟩
end
section
variable (X : Cx) (W : DW)
structure PD (e : Expr) (t : DE) : Prop where
  run : PE X e (liftE X.K W t)
structure PTD (e : Expr) (t : DT) : Prop where
  run : PT X e (liftT X.K W t)
structure PWD (e : Expr) (t : DT) : Prop where
  run : PW X e (liftT X.K W t)
structure PAD (es : List Expr) (t : DA) : Prop where
  run : PA X es (liftA X.K W t)
structure PSD (st : Stmt) (t : DS) : Prop where
  run : PS X st (liftS X.K W t)
structure PSsD (st : List Stmt) (t : DS) : Prop where
  run : PSs X st (liftS X.K W t)
end
section
variable {X : Cx}
theorem PEimp {e : Expr} {t t' : TE} (h : PE X e t) (i : ∀ σ H Q, t' σ H Q → t σ H Q) : PE X e t' := ⟨fun pins s σ H Q I q => h.run pins s σ H Q I (i σ H Q q)⟩
theorem PTimp {e : Expr} {t t' : TT} (h : PT X e t) (i : ∀ σ H Q, t' σ H Q → t σ H Q) : PT X e t' := ⟨fun pins s σ H Q I q => h.run pins s σ H Q I (i σ H Q q)⟩
theorem PWimp {e : Expr} {t t' : TT} (h : PW X e t) (i : ∀ σ H Q, t' σ H Q → t σ H Q) : PW X e t' := ⟨fun wh pins s σ H Q I q => h.run wh pins s σ H Q I (i σ H Q q)⟩
theorem PAimp {es : List Expr} {t t' : TA} (h : PA X es t) (i : ∀ σ H Q, t' σ H Q → t σ H Q) : PA X es t' := ⟨fun pos pins s σ H Q I q => h.run pos pins s σ H Q I (i σ H Q q)⟩
theorem PSimp {e : Stmt} {t t' : TS} (h : PS X e t) (i : ∀ De σ H, t' De σ H → t De σ H) : PS X e t' := ⟨fun pins s σ H De I q => h.run pins s σ H De I (i De σ H q)⟩
theorem PSsimp {e : List Stmt} {t t' : TS} (h : PSs X e t) (i : ∀ De σ H, t' De σ H → t De σ H) : PSs X e t' := ⟨fun pins s σ H De I q => h.run pins s σ H De I (i De σ H q)⟩
end
end DL

set_option maxHeartbeats 4000000
namespace DL
open PySem L2
section
variable {X : Cx} {W : DW}

/-! ### names, constants -/
def slot (τ : Sl) (i : Nat) : Option D := (τ[i]?).join
theorem slot_eq {τ : Sl} {i : Nat} {d : D} (h : slot τ i = some d) : τ[i]? = some (some d) := by
  unfold slot at h
  cases e : τ[i]? with
  | none => rw [e] at h; cases h
  | some o => rw [e] at h; exact congrArg some h
def dVar (i : Nat) : DE := fun τ M Q _ => match slot τ i with | some d => Q d M | none => False
def dC (d : D) : DE := fun _ M Q _ => Q d M
theorem pd_var {i : Nat} {e : Expr} (h : PE X e (tVar i)) : PD X W e (dVar i) := ⟨PEimp h fun σ H Q ⟨τ, M, Qd, Ed, hs, hr, q, _, k⟩ => by
  unfold dVar at q
  split at q
  · rename_i d e
    obtain ⟨v, a, b⟩ := hs.at_ i d (slot_eq e)
    exact ⟨v, a, k d M v H q .refl b hr⟩
  · exact q.elim⟩
theorem pd_c {e : Expr} {v : V} {d : D} (h : PE X e (tC v)) (r : ∀ H, Rp X.K H v d) : PD X W e (dC d) := ⟨PEimp h fun σ H Q ⟨τ, M, Qd, Ed, hs, hr, q, _, k⟩ => k d M v H q .refl (r H) hr⟩
theorem pd_int {i j pos} : PD X W (.Constant (.int i) j pos) (dC (.int i)) := pd_c pe_int fun _ => .int i
theorem pd_bl {b j pos} : PD X W (.Constant (.bool b) j pos) (dC (.bl b)) := pd_c pe_bl fun _ => .bl b
theorem pd_non {j pos} : PD X W (.Constant .none j pos) (dC .non) := pd_c pe_non fun _ => .non
theorem pd_str {x j pos} : PD X W (.Constant (.str x) j pos) (dC (.str x)) := pd_c pe_str fun _ => .str x
/-- a slot by its place -/
theorem pdv (i : Nat) {x : Str} {pos : Pos} (hN : X.N[i]? = some x := by rfl) (hv : Vis X.env.scope x := by first | exact Or.inl rfl | exact Or.inr (Or.inl rfl) | exact Or.inr (Or.inr rfl)) (hd : (x == ("__debug__" : Str)) = false := by decide)
    (hcd : (x == ("__classdict__" : Str)) = false := by decide) : PD X W (.Name x pos) (dVar i) := pd_var (pe_var hN hv hd hcd)

/-! ### operators by values -/
abbrev DO := D → D → Mp → DK → Prop
def liftO (K : PySem.W.Frag) (g : DO) : R2 := fun x y H Q => ∃ dx dy M Qd, g dx dy M Qd ∧ Rp K H x dx ∧ Rp K H y dy ∧ HR K H M ∧ KC K H Qd Q
def dOp (g : DO) (ta tb : DE) : DE := fun τ M Q E => ta τ M (fun x M1 => tb τ M1 (fun y M2 => g x y M2 Q) E) E
theorem dOp_lift {g : DO} {ta tb : DE} {σ : St} {H : Hp} {Q : VK} (h : liftE X.K W (dOp g ta tb) σ H Q) : tOp (liftO X.K g) (liftE X.K W ta) (liftE X.K W tb) σ H Q := by
  obtain ⟨τ, M, Qd, Ed, hs, hr, q, we, k⟩ := h
  refine ⟨τ, M, _, Ed, hs, hr, q, we, fun x M1 v H1 q1 e1 r1 h1 => ⟨τ, M1, _, Ed, hs.mono e1, h1, q1, we, fun y M2 u H2 q2 e2 r2 h2 => ?_⟩⟩
  exact ⟨x, y, M2, Qd, q2, r1.mono e2, r2, h2, k.mono (e1.trans e2)⟩
theorem pd_op {op : Operator} {g : DO} {a b : Expr} {ta tb : DE} {pos : Pos} (ho : OpR X (binaryOp op) (liftO X.K g)) (ha : PD X W a ta) (hb : PD X W b tb) : PD X W (.BinOp a op b pos) (dOp g ta tb) :=
  ⟨PEimp (pe_op ho ha.run hb.run) fun _ _ _ h => dOp_lift h⟩
theorem OpRimp {f : Value → Value → Sem Value} {r r' : R2} (h : OpR X f r) (i : ∀ x y H Q, r' x y H Q → r x y H Q) : OpR X f r' := fun pins s σ H x y v u Q I rx ry q => h pins s σ H x y v u Q I rx ry (i x y H Q q)
/-- an operator whose reading is one of two -/
theorem liftO_or {f : Value → Value → Sem Value} {g g1 g2 : DO} (h1 : OpR X f (liftO X.K g1)) (h2 : OpR X f (liftO X.K g2)) (h : ∀ x y M Q, g x y M Q → g1 x y M Q ∨ g2 x y M Q) : OpR X f (liftO X.K g) :=
  OpRimp (h1.or h2) fun x y H Q ⟨dx, dy, M, Qd, q, a, b, c, k⟩ => (h dx dy M Qd q).elim (fun z => .inl ⟨dx, dy, M, Qd, z, a, b, c, k⟩) fun z => .inr ⟨dx, dy, M, Qd, z, a, b, c, k⟩
theorem Rp.toInt {K : PySem.W.Frag} {H : Hp} {v : V} {i : Int} (h : Rp K H v (.int i)) : v = .int i := by cases h; rfl
theorem Rp.toStr {K : PySem.W.Frag} {H : Hp} {v : V} {i : Str} (h : Rp K H v (.str i)) : v = .str i := by cases h; rfl
theorem Rp.toBl {K : PySem.W.Frag} {H : Hp} {v : V} {i : Bool} (h : Rp K H v (.bl i)) : v = .bl i := by cases h; rfl
theorem Rp.toRef {K : PySem.W.Frag} {H : Hp} {v : V} {i : Addr} (h : Rp K H v (.ref i)) : v = .ref i := by cases h; rfl
theorem Rp.toTy {K : PySem.W.Frag} {H : Hp} {v : V} {i : String} (h : Rp K H v (.ty i)) : v = .ty i := by cases h; rfl
theorem Rp.toNon {K : PySem.W.Frag} {H : Hp} {v : V} (h : Rp K H v .non) : v = .non := by cases h; rfl
theorem Rp.toTup {K : PySem.W.Frag} {H : Hp} {v : V} {ds : List D} (h : Rp K H v (.tup ds)) : ∃ a xs, v = .ref a ∧ SqT K H a xs ∧ RpL K H xs ds := by
  cases h with
  | tup s l => exact ⟨_, _, rfl, s, l⟩
theorem HR.lst {K : PySem.W.Frag} {H : Hp} {M : Mp} {a : Addr} {ds : List D} (h : HR K H M) (e : M a = some (.lst ds)) : ∃ xs, H a = some (.lst xs) ∧ RpL K H xs ds := h a _ e
theorem HR.dk {K : PySem.W.Frag} {H : Hp} {M : Mp} {a : Addr} {ds : List (Key × D)} (h : HR K H M) (e : M a = some (.dk ds)) : ∃ xs, H a = some (.dK xs) ∧ KD K H xs ds := h a _ e
theorem HR.ins {K : PySem.W.Frag} {H : Hp} {M : Mp} {a C : Addr} {ds : List (Str × D)} (h : HR K H M) (e : M a = some (.ins C ds)) : ∃ dx xs, H a = some (.ins C dx xs) ∧ FD K H xs ds := h a _ e
/-- a new tuple -/
theorem KC.tup {K : PySem.W.Frag} {H : Hp} {M : Mp} {Qd : DK} {Q : VK} {xs : List V} {ds : List D} {p : Addr} (k : KC K H Qd Q) (hr : HR K H M) (l : RpL K H xs ds) (hp : H p = none) (q : Qd (.tup ds) M) : Q (.ref p) (upd H p (.tup xs)) :=
  k _ M _ _ q (.new hp) (.tup (.of upd_same) (l.mono (.new hp))) (hr.fresh hp)
/-- a new list -/
theorem KC.lst {K : PySem.W.Frag} {H : Hp} {M : Mp} {Qd : DK} {Q : VK} {xs : List V} {ds : List D} {p : Addr} (k : KC K H Qd Q) (hr : HR K H M) (l : RpL K H xs ds) (hp : H p = none) (q : ∀ p, M p = none → Qd (.ref p) (put M p (.lst ds))) : Q (.ref p) (upd H p (.lst xs)) :=
  k _ _ _ _ (q p (hr.free hp)) (.new hp) (.ref p) (hr.made (noTup_none hp) ⟨xs, upd_same, l.mono (.new hp)⟩)

/-- two ints -/
def oI (C : Int → Int → Prop) (f : Int → Int → D) : DO := fun x y M Q => match x, y with | .int i, .int j => C i j ∧ Q (f i j) M | _, _ => False
def oI0 (f : Int → Int → D) : DO := fun x y M Q => match x, y with | .int i, .int j => Q (f i j) M | _, _ => False
theorem oI_of {f : Value → Value → Sem Value} {C : Int → Int → Prop} {g : Int → Int → V} {gd : Int → Int → D} (h : OpR X f (rI C g)) (hg : ∀ i j H, Rp X.K H (g i j) (gd i j)) : OpR X f (liftO X.K (oI C gd)) :=
  OpRimp h fun x y H Q ⟨dx, dy, M, Qd, q, a, b, c, k⟩ => by
    unfold oI at q
    split at q
    · rename_i i j
      exact ⟨i, j, a.toInt, b.toInt, q.1, k _ M _ H q.2 .refl (hg i j H) c⟩
    · exact q.elim
theorem oI0_of {f : Value → Value → Sem Value} {g : Int → Int → V} {gd : Int → Int → D} (h : OpR X f (rI0 g)) (hg : ∀ i j H, Rp X.K H (g i j) (gd i j)) : OpR X f (liftO X.K (oI0 gd)) :=
  OpRimp h fun x y H Q ⟨dx, dy, M, Qd, q, a, b, c, k⟩ => by
    unfold oI0 at q
    split at q
    · rename_i i j
      exact ⟨i, j, a.toInt, b.toInt, k _ M _ H q .refl (hg i j H) c⟩
    · exact q.elim
/-- + -/
def addD : DO := fun x y M Q => match x, y with
  | .int i, .int j => Q (.int (i + j)) M
  | .str i, .str j => i.length + j.length ≤ sizeLine ∧ Q (.str (i ++ j)) M
  | .tup xs, .tup ys => xs.length + ys.length ≤ sizeLine ∧ Q (.tup (xs ++ ys)) M
  | .ref a, .ref b => match M a, M b with
    | some (.lst xs), some (.lst ys) => xs.length + ys.length ≤ sizeLine ∧ ∀ p, M p = none → Q (.ref p) (put M p (.lst (xs ++ ys)))
    | _, _ => False
  | _, _ => False
theorem op_addD : OpR X (binaryOp .Add) (liftO X.K addD) :=
  OpRimp ((op_add (X := X)).or ((op_add_str (X := X)).or ((op_catA (X := X)).or (op_cat (X := X))))) fun x y H Q ⟨dx, dy, M, Qd, q, a, b, c, k⟩ => by
    unfold addD at q
    split at q
    · exact .inl ⟨_, _, a.toInt, b.toInt, k _ M _ H q .refl (.int _) c⟩
    · exact .inr (.inl ⟨_, _, a.toStr, b.toStr, q.1, k _ M _ H q.2 .refl (.str _) c⟩)
    · rename_i xs ys
      obtain ⟨pa, va, rfl, sa, la⟩ := a.toTup
      obtain ⟨pb, vb, rfl, sb, lb⟩ := b.toTup
      refine .inr (.inr (.inl ⟨pa, pb, va, vb, rfl, rfl, sa, sb, by rw [la.length, lb.length]; exact q.1, fun e => ?_, fun _ e => ?_, fun _ _ p hp => k.tup c (la.append lb) hp q.2⟩))
      · subst e
        have e' : xs = [] := by cases la; rfl
        subst e'
        exact k _ M _ H q.2 .refl (.tup sb (by simpa using lb)) c
      · subst e
        have e' : ys = [] := by cases lb; rfl
        subst e'
        exact k _ M _ H q.2 .refl (.tup sa (by simpa using la)) c
    · rename_i pa pb
      split at q
      · rename_i xs ys e1 e2
        obtain ⟨va, ha, la⟩ := c.lst e1
        obtain ⟨vb, hb, lb⟩ := c.lst e2
        exact .inr (.inr (.inr ⟨pa, pb, va, vb, a.toRef, b.toRef, ha, hb, by rw [la.length, lb.length]; exact q.1, fun p hp => k.lst c (la.append lb) hp q.2⟩))
      · exact q.elim
    · exact q.elim
theorem op_subD : OpR X (binaryOp .Sub) (liftO X.K (oI0 fun i j => .int (i - j))) := oI0_of op_sub fun _ _ _ => .int _
theorem op_fdivD : OpR X (binaryOp .FloorDiv) (liftO X.K (oI CDivW fun i j => .int (i / j))) := oI_of op_fdivW fun _ _ _ => .int _
theorem op_modD : OpR X (binaryOp .Mod) (liftO X.K (oI (fun _ j => 0 < j) fun i j => .int (i % j))) := oI_of op_mod fun _ _ _ => .int _
theorem op_powD : OpR X (binaryOp .Pow) (liftO X.K (oI CPow fun i j => .int (i ^ j.toNat))) := oI_of op_pow fun _ _ _ => .int _
end
end DL

set_option maxHeartbeats 4000000
namespace DL
open PySem L2

/-! ### plain data as the library's data; Python's == -/
mutual
def toP : D → PyData
  | .non => .none
  | .bl b => .bool b
  | .int i => .int i
  | .str x => .str x
  | .tup xs => .tuple (toPL xs)
  | .ref _ => .none
  | .ty _ => .none
def toPL : List D → List PyData
  | [] => []
  | d :: ds => toP d :: toPL ds
end
mutual
/-- no addresses, no classes; signs as they may be -/
def ok : D → Bool
  | .str x => x.cps.all (· < 0x110000)
  | .tup xs => okL xs
  | .ref _ => false
  | .ty _ => false
  | .non => true
  | .bl _ => true
  | .int _ => true
def okL : List D → Bool
  | [] => true
  | d :: ds => ok d && okL ds
end
mutual
def dep : D → Nat
  | .tup xs => depL xs + 1
  | .non => 0
  | .bl _ => 0
  | .int _ => 0
  | .str _ => 0
  | .ref _ => 0
  | .ty _ => 0
def depL : List D → Nat
  | [] => 0
  | d :: ds => max (dep d) (depL ds)
end
mutual
def eqb : D → D → Bool
  | .non, y => match y with | .non => true | _ => false
  | .bl a, y => match y with | .bl b => a == b | .int j => (if a then 1 else 0) == j | _ => false
  | .int i, y => match y with | .bl b => i == (if b then 1 else 0) | .int j => i == j | _ => false
  | .str a, y => match y with | .str b => a == b | _ => false
  | .tup xs, y => match y with | .tup ys => eqbL xs ys | _ => false
  | .ref _, _ => false
  | .ty _, _ => false
def eqbL : List D → List D → Bool
  | [], ys => match ys with | [] => true | _ => false
  | x :: xs, ys => match ys with | y :: ys => eqb x y && eqbL xs ys | _ => false
end
mutual
theorem eqv_toP : ∀ (x y : D), ok x = true → ok y = true → PyData.eqv (toP x) (toP y) = eqb x y
  | .non, y, h, k => by cases y <;> simp_all [toP, eqb, PyData.eqv, ok]
  | .bl _, y, h, k => by cases y <;> simp_all [toP, eqb, PyData.eqv, ok]
  | .int _, y, h, k => by cases y <;> simp_all [toP, eqb, PyData.eqv, ok]
  | .str _, y, h, k => by cases y <;> simp_all [toP, eqb, PyData.eqv, ok]
  | .ref _, y, h, k => by simp [ok] at h
  | .ty _, y, h, k => by simp [ok] at h
  | .tup xs, y, h, k => by
    cases y with
    | tup ys =>
      have q := eqvL_toP xs ys (by simpa [ok] using h) (by simpa [ok] using k)
      simpa [toP, eqb, PyData.eqv] using q
    | ref _ => simp [ok] at k
    | ty _ => simp [ok] at k
    | _ => simp [toP, eqb, PyData.eqv]
theorem eqvL_toP : ∀ (xs ys : List D), okL xs = true → okL ys = true → PyData.eqvAll (toPL xs) (toPL ys) = eqbL xs ys
  | [], [], _, _ => by simp [toPL, eqbL, PyData.eqvAll]
  | [], _ :: _, _, _ => by simp [toPL, eqbL, PyData.eqvAll]
  | _ :: _, [], _, _ => by simp [toPL, eqbL, PyData.eqvAll]
  | x :: xs, y :: ys, h, k => by
    have h' : ok x = true ∧ okL xs = true := by simpa [okL] using h
    have k' : ok y = true ∧ okL ys = true := by simpa [okL] using k
    simp [toPL, eqbL, PyData.eqvAll, eqv_toP x y h'.1 k'.1, eqvL_toP xs ys h'.2 k'.2]
end
mutual
theorem lay_toP : ∀ (x : D), ok x = true → (toP x).canLay0 = true
  | .non, h => by simp [toP, PyData.canLay0]
  | .bl _, h => by simp [toP, PyData.canLay0]
  | .int _, h => by simp [toP, PyData.canLay0]
  | .str _, h => by simpa [toP, PyData.canLay0, PyData.strOk, ok] using h
  | .ref _, h => by simp [ok] at h
  | .ty _, h => by simp [ok] at h
  | .tup xs, h => by
    have q := layL_toP xs (by simpa [ok] using h)
    simpa [toP, PyData.canLay0] using q
theorem layL_toP : ∀ (xs : List D), okL xs = true → PyData.canLayAll0 (toPL xs) = true
  | [], _ => by simp [toPL, PyData.canLayAll0]
  | x :: xs, h => by
    have h' : ok x = true ∧ okL xs = true := by simpa [okL] using h
    simp [toPL, PyData.canLayAll0, lay_toP x h'.1, layL_toP xs h'.2]
end
mutual
theorem dep_toP : ∀ (x : D), (toP x).depth = dep x
  | .non => by simp [toP, PyData.depth, dep]
  | .bl _ => by simp [toP, PyData.depth, dep]
  | .int _ => by simp [toP, PyData.depth, dep]
  | .str _ => by simp [toP, PyData.depth, dep]
  | .ref _ => by simp [toP, PyData.depth, dep]
  | .ty _ => by simp [toP, PyData.depth, dep]
  | .tup xs => by simp [toP, PyData.depth, dep, depL_toP xs]
theorem depL_toP : ∀ (xs : List D), PyData.depthAll (toPL xs) = depL xs
  | [] => by simp [toPL, PyData.depthAll, depL]
  | x :: xs => by simp [toPL, PyData.depthAll, depL, dep_toP x, depL_toP xs]
end
mutual
theorem dp_of {K : PySem.W.Frag} {H : Hp} : ∀ {v : V} {d : D}, Rp K H v d → ok d = true → Dp K H v (toP d)
  | _, _, .non, _ => by simpa [toP] using Dp.non
  | _, _, .bl b, _ => by simpa [toP] using Dp.bl b
  | _, _, .int b, _ => by simpa [toP] using Dp.int b
  | _, _, .str b, _ => by simpa [toP] using Dp.str b
  | _, _, .ref b, h => by simp [ok] at h
  | _, _, .ty b, h => by simp [ok] at h
  | _, _, .tup s l, h => by simpa [toP] using Dp.tup s (dpL_of l (by simpa [ok] using h))
theorem dpL_of {K : PySem.W.Frag} {H : Hp} : ∀ {v : List V} {d : List D}, RpL K H v d → okL d = true → DpAll K H v (toPL d)
  | _, _, .nil, _ => by simpa [toPL] using DpAll.nil
  | _, _, .cons r l, h => by
    rename_i d _ ds
    have h' : ok d = true ∧ okL ds = true := by simpa [okL] using h
    simpa [toPL] using DpAll.cons (dp_of r h'.1) (dpL_of l h'.2)
end
section
variable {X : Cx} {W : DW}
/-- what both sides of == are asked -/
def eqOk (x y : D) : Prop := ok x = true ∧ ok y = true ∧ min (dep x) (dep y) ≤ 200
def eqG (n : Bool) : DO := fun x y M Q => match x, y with
  | .int i, .int j => Q (.bl (n != decide (i = j))) M
  | .str i, .str j => Q (.bl (n != decide (i = j))) M
  | .ref a, .ref b => match M a, M b with
    | some (.lst xs), some (.lst ys) => okL xs = true ∧ okL ys = true ∧ min (depL xs) (depL ys) ≤ 199 ∧ Q (.bl (n != eqbL xs ys)) M
    | _, _ => False
  | x, y => eqOk x y ∧ Q (.bl (n != eqb x y)) M
abbrev eqD : DO := eqG false
abbrev neD : DO := eqG true
def rDeep (K : PySem.W.Frag) (n : Bool) : R2 := fun x y H Q => ∃ d e, Dp K H x d ∧ Dp K H y e ∧ d.canLay0 = true ∧ e.canLay0 = true ∧ min d.depth e.depth ≤ 200 ∧ Q (.bl (n != PyData.eqv d e)) H
theorem op_deepE (hu : X.A.units + 200 < cLine) : OpR X (compareOp .Eq) (rDeep X.K false) := by
  intro pins s σ H x y v u Q I rx ry ⟨d, e, hd, he, sd, se, dm, q⟩
  obtain ⟨as, r1⟩ := Dp.reads I d x v hd rx
  obtain ⟨bs, r2⟩ := Dp.reads I e y u he ry
  exact SeqAt.compareEq_reads r1 r2 sd se (by omega) ⟨.bl _, H, I, rfl, by simpa using q⟩
theorem op_deepN (hu : X.A.units + 200 < cLine) : OpR X (compareOp .NotEq) (rDeep X.K true) := by
  intro pins s σ H x y v u Q I rx ry ⟨d, e, hd, he, sd, se, dm, q⟩
  obtain ⟨as, r1⟩ := Dp.reads I d x v hd rx
  obtain ⟨bs, r2⟩ := Dp.reads I e y u he ry
  exact SeqAt.compareNe_reads r1 r2 sd se (by omega) ⟨.bl _, H, I, rfl, by simpa using q⟩
def rScal (n : Bool) : R2 := fun x y H Q => (∃ i j : Int, x = .int i ∧ y = .int j ∧ Q (.bl (n != decide (i = j))) H) ∨ (∃ i j : Str, x = .str i ∧ y = .str j ∧ Q (.bl (n != decide (i = j))) H)
theorem dInt {i j : Int} : decide (V.int i = V.int j) = decide (i = j) := by
  by_cases h : i = j
  · subst h; simp
  · simp [h]
theorem dStr {i j : Str} : decide (V.str i = V.str j) = decide (i = j) := by
  by_cases h : i = j
  · subst h; simp
  · simp [h]
theorem op_scalE : OpR X (compareOp .Eq) (rScal false) := OpRimp op_eq fun x y H Q h => by
  rcases h with ⟨i, j, rfl, rfl, q⟩ | ⟨i, j, rfl, rfl, q⟩
  · exact ⟨rfl, by rw [dInt]; simpa using q⟩
  · exact ⟨rfl, by rw [dStr]; simpa using q⟩
theorem op_scalN : OpR X (compareOp .NotEq) (rScal true) := OpRimp op_ne fun x y H Q h => by
  rcases h with ⟨i, j, rfl, rfl, q⟩ | ⟨i, j, rfl, rfl, q⟩
  · exact ⟨rfl, by rw [dInt]; simpa using q⟩
  · exact ⟨rfl, by rw [dStr]; simpa using q⟩
theorem eqG_of {f : Value → Value → Sem Value} {n : Bool} (h1 : OpR X f (rScal n)) (h2 : OpR X f (rDeep X.K n)) : OpR X f (liftO X.K (eqG n)) :=
  OpRimp (h1.or h2) fun x y H Q ⟨dx, dy, M, Qd, q, a, b, c, k⟩ => by
    unfold eqG at q
    split at q
    · exact .inl (.inl ⟨_, _, a.toInt, b.toInt, k _ M _ H q .refl (.bl _) c⟩)
    · exact .inl (.inr ⟨_, _, a.toStr, b.toStr, k _ M _ H q .refl (.bl _) c⟩)
    · rename_i pa pb
      split at q
      · rename_i xs ys e1 e2
        obtain ⟨va, ha, la⟩ := c.lst e1
        obtain ⟨vb, hb, lb⟩ := c.lst e2
        have ra := a.toRef
        have rb := b.toRef
        subst ra; subst rb
        refine .inr ⟨_, _, .lst (SqL.of ha) (dpL_of la q.1), .lst (SqL.of hb) (dpL_of lb q.2.1), by simpa [PyData.canLay0] using layL_toP _ q.1, by simpa [PyData.canLay0] using layL_toP _ q.2.1, ?_, ?_⟩
        · have := q.2.2.1
          simp only [PyData.depth, depL_toP]
          omega
        · refine k _ M _ H ?_ .refl (.bl _) c
          have := q.2.2.2
          rw [← eqvL_toP xs ys q.1 q.2.1] at this
          simpa [PyData.eqv] using this
      · exact q.elim
    · obtain ⟨⟨o1, o2, dm⟩, q⟩ := q
      refine .inr ⟨_, _, dp_of a o1, dp_of b o2, lay_toP _ o1, lay_toP _ o2, by rw [dep_toP, dep_toP]; exact dm, ?_⟩
      rw [eqv_toP _ _ o1 o2]
      exact k _ M _ H q .refl (.bl _) c
theorem op_eqG (hu : X.A.units + 200 < cLine) : OpR X (compareOp .Eq) (liftO X.K eqD) := eqG_of op_scalE (op_deepE hu)
theorem op_neG (hu : X.A.units + 200 < cLine) : OpR X (compareOp .NotEq) (liftO X.K neD) := eqG_of op_scalN (op_deepN hu)
theorem Room.u200 {k : Nat} {A : Around} (r : Room k A) : A.units + 200 < cLine := by have := r.un; omega

/-! ### < and the like, is -/
theorem op_ltD : OpR X (compareOp .Lt) (liftO X.K (oI0 fun i j => .bl (decide (i < j)))) := oI0_of op_lt fun _ _ _ => .bl _
theorem op_leD : OpR X (compareOp .LtE) (liftO X.K (oI0 fun i j => .bl (decide (i ≤ j)))) := oI0_of op_le fun _ _ _ => .bl _
theorem op_gtD : OpR X (compareOp .Gt) (liftO X.K (oI0 fun i j => .bl (decide (j < i)))) := oI0_of op_gt fun _ _ _ => .bl _
theorem op_geD : OpR X (compareOp .GtE) (liftO X.K (oI0 fun i j => .bl (decide (j ≤ i)))) := oI0_of op_ge fun _ _ _ => .bl _
def isNone : D → Bool
  | .non => true
  | _ => false
/-- is None; is of two bools -/
def isG (n : Bool) : DO := fun x y M Q => match y with
  | .non => Q (.bl (n != isNone x)) M
  | .bl b => match x with
    | .bl a => Q (.bl (n != decide (a = b))) M
    | _ => False
  | _ => False
theorem isNone_of {K : PySem.W.Frag} {H : Hp} {v : V} {d : D} (r : Rp K H v d) : decide (v = .non) = isNone d := by
  cases r <;> simp [isNone]
theorem op_isG : OpR X (compareOp .Is) (liftO X.K (isG false)) :=
  OpRimp ((op_isN (X := X)).or (op_isBl (X := X))) fun x y H Q ⟨dx, dy, M, Qd, q, a, b, c, k⟩ => by
    unfold isG at q
    split at q
    · exact .inl ⟨b.toNon, by rw [isNone_of a]; exact k _ M _ H (by simpa using q) .refl (.bl _) c⟩
    · split at q
      · exact .inr ⟨_, _, a.toBl, b.toBl, k _ M _ H (by simpa using q) .refl (.bl _) c⟩
      · exact q.elim
    · exact q.elim
theorem op_isNotG : OpR X (compareOp .IsNot) (liftO X.K (isG true)) :=
  OpRimp ((op_notN (X := X)).or (op_notBl (X := X))) fun x y H Q ⟨dx, dy, M, Qd, q, a, b, c, k⟩ => by
    unfold isG at q
    split at q
    · exact .inl ⟨b.toNon, by rw [isNone_of a]; exact k _ M _ H (by simpa using q) .refl (.bl _) c⟩
    · split at q
      · exact .inr ⟨_, _, a.toBl, b.toBl, k _ M _ H (by simpa using q) .refl (.bl _) c⟩
      · exact q.elim
    · exact q.elim

/-! ### comparisons and tests -/
theorem pd_cmp {op : CmpOp} {g : DO} {a b : Expr} {ta tb : DE} {pos : Pos} (ho : OpR X (compareOp op) (liftO X.K g)) (ha : PD X W a ta) (hb : PD X W b tb) (hm : behindInMarks op b = false) : PD X W (.Compare a [op] [b] pos) (dOp g ta tb) :=
  ⟨PEimp (pe_cmpR ho ha.run hb.run hm) fun _ _ _ h => dOp_lift h⟩
/-- a value that is a bool, as a test -/
def dB (t : DE) : DT := fun τ M Q E => t τ M (fun d M1 => match d with | .bl b => Q b M1 | _ => False) E
theorem dB_lift {t : DE} {σ : St} {H : Hp} {Q : Bool → Hp → Prop} (h : liftT X.K W (dB t) σ H Q) : liftE X.K W t σ H (fun x H1 => ∃ k, x = .bl k ∧ Q k H1) := by
  obtain ⟨τ, M, Qd, Ed, hs, hr, q, we, k⟩ := h
  refine ⟨τ, M, _, Ed, hs, hr, q, we, fun d M1 v H1 q1 e1 r1 h1 => ?_⟩
  dsimp only at q1
  split at q1
  · exact ⟨_, r1.toBl, k _ M1 H1 q1 e1 h1⟩
  · exact q1.elim
theorem pt_cmpD {op : CmpOp} {g : DO} {a b : Expr} {ta tb : DE} {pos : Pos} (ho : OpR X (compareOp op) (liftO X.K g)) (ha : PD X W a ta) (hb : PD X W b tb) (hm : behindInMarks op b = false) : PTD X W (.Compare a [op] [b] pos) (dB (dOp g ta tb)) :=
  ⟨PTimp (pt_cmpR ho ha.run hb.run hm) fun σ H Q h => dOp_lift (Q := fun x H1 => ∃ k, x = .bl k ∧ Q k H1) (W := W) (by
    obtain ⟨τ, M, Qd, Ed, hs, hr, q, we, k⟩ := h
    exact ⟨τ, M, _, Ed, hs, hr, q, we, fun d M1 v H1 q1 e1 r1 h1 => by
      dsimp only at q1
      split at q1
      · exact ⟨_, r1.toBl, k _ M1 H1 q1 e1 h1⟩
      · exact q1.elim⟩)⟩
theorem ptd_val {e : Expr} {t : DE} (h : PD X W e t) (he : ∀ whole, isTrue e X.env whole = (do let v ← whole; standAt e.pos; holding [v] (truthy v)) := by intro _; rfl) : PTD X W e (dB t) :=
  ⟨PTimp (pt_val h.run he) fun σ H Q h => dB_lift h⟩
/-- a value by its truth -/
def truD (d : D) (M : Mp) : Option Bool := match d with
  | .non => some false
  | .bl b => some b
  | .int i => some (i != 0)
  | .str x => if x.length ≤ sizeLine then some ((x.length : Int) != 0) else none
  | .tup xs => some (!xs.isEmpty)
  | .ref a => match M a with
    | some (.lst xs) => some (!xs.isEmpty)
    | some (.dk xs) => some (!xs.isEmpty)
    | _ => none
  | .ty _ => none
def dTru (t : DE) : DT := fun τ M Q E => t τ M (fun d M1 => match truD d M1 with | some b => Q b M1 | none => False) E
theorem KD.isEmpty {K : PySem.W.Frag} {H : Hp} {ps : List (Key × V)} {qs : List (Key × D)} (h : KD K H ps qs) : ps.isEmpty = qs.isEmpty := by
  cases ps <;> cases qs <;> first | rfl | exact h.elim
theorem truD_ok {K : PySem.W.Frag} {H : Hp} {M : Mp} {v : V} {d : D} {b : Bool} (r : Rp K H v d) (hr : HR K H M) (h : truD d M = some b) : TruV K v H b := by
  cases d with
  | non => cases r; exact (Option.some.inj h).symm
  | bl b => cases r; exact (Option.some.inj h).symm
  | int i => cases r; exact (Option.some.inj h).symm
  | str x =>
    cases r
    unfold truD at h
    by_cases c : x.length ≤ sizeLine
    · simp only [c, if_true] at h
      exact ⟨c, (Option.some.inj h).symm⟩
    · simp [c] at h
  | tup xs =>
    obtain ⟨a, vs, rfl, s, l⟩ := r.toTup
    exact .inr (.inl ⟨vs, s, by rw [l.isEmpty]; exact (Option.some.inj h).symm⟩)
  | ref a =>
    cases r
    have h' : (match M a with | some (.lst xs) => some (!xs.isEmpty) | some (.dk xs) => some (!xs.isEmpty) | _ => none) = some b := h
    cases e : M a with
    | none => rw [e] at h'; cases h'
    | some o =>
      rw [e] at h'
      cases o with
      | lst xs =>
        obtain ⟨vs, hv, l⟩ := hr.lst e
        exact .inl ⟨vs, SqL.of hv, by rw [l.isEmpty]; exact (Option.some.inj h').symm⟩
      | dk xs =>
        obtain ⟨vs, hv, l⟩ := hr.dk e
        exact .inr (.inr ⟨vs, hv, by rw [l.isEmpty]; exact (Option.some.inj h').symm⟩)
      | rol xs => cases h'
      | ins C xs => cases h'
      | xd xs => cases h'
  | ty n => cases h
theorem ptd_tru {e : Expr} {t : DE} (h : PD X W e t) (he : ∀ whole, isTrue e X.env whole = (do let v ← whole; standAt e.pos; holding [v] (truthy v)) := by intro _; rfl) : PTD X W e (dTru t) :=
  ⟨PTimp (pt_truth h.run he) fun σ H Q ⟨τ, M, Qd, Ed, hs, hr, q, we, k⟩ => ⟨τ, M, _, Ed, hs, hr, q, we, fun d M1 v H1 q1 e1 r1 h1 => by
    dsimp only at q1
    split at q1
    · rename_i b eb
      exact ⟨b, truD_ok r1 h1 eb, k b M1 H1 q1 e1 h1⟩
    · exact q1.elim⟩⟩
def dAnd (t u : DT) : DT := fun τ M Q E => t τ M (fun c M1 => if c = true then u τ M1 Q E else Q false M1) E
def dOr (t u : DT) : DT := fun τ M Q E => t τ M (fun c M1 => if c = true then Q true M1 else u τ M1 Q E) E
def dNot (t : DT) : DT := fun τ M Q E => t τ M (fun c M1 => Q (!c) M1) E
section
variable {a b : Expr} {rest : List Expr} {t u : DT} {pos : Pos} {te ue : DE}
theorem PWD.pt {e : Expr} {t : DT} (h : PWD X W e t) : PTD X W e t := ⟨h.run.pt⟩
theorem pwd_and1 (h : PTD X W a t) : PWD X W (.BoolOp .And [a] pos) t := ⟨pw_and1 h.run⟩
theorem pwd_or1 (h : PTD X W a t) : PWD X W (.BoolOp .Or [a] pos) t := ⟨pw_or1 h.run⟩
theorem pwd_and (h : PTD X W a t) (hb : PWD X W (.BoolOp .And (b :: rest) pos) u) : PWD X W (.BoolOp .And (a :: b :: rest) pos) (dAnd t u) :=
  ⟨PWimp (pw_and h.run hb.run) fun σ H Q ⟨τ, M, Qd, Ed, hs, hr, q, we, k⟩ => ⟨τ, M, _, Ed, hs, hr, q, we, fun c M1 H1 q1 e1 h1 => by
    cases c with
    | true => exact ⟨τ, M1, Qd, Ed, hs.mono e1, h1, q1, we, fun b M2 H2 q2 e2 h2 => k b M2 H2 q2 (e1.trans e2) h2⟩
    | false => exact k false M1 H1 (by simpa using q1) e1 h1⟩⟩
theorem pwd_or (h : PTD X W a t) (hb : PWD X W (.BoolOp .Or (b :: rest) pos) u) : PWD X W (.BoolOp .Or (a :: b :: rest) pos) (dOr t u) :=
  ⟨PWimp (pw_or h.run hb.run) fun σ H Q ⟨τ, M, Qd, Ed, hs, hr, q, we, k⟩ => ⟨τ, M, _, Ed, hs, hr, q, we, fun c M1 H1 q1 e1 h1 => by
    cases c with
    | true => exact k true M1 H1 q1 e1 h1
    | false => exact ⟨τ, M1, Qd, Ed, hs.mono e1, h1, (by simpa using q1), we, fun b M2 H2 q2 e2 h2 => k b M2 H2 q2 (e1.trans e2) h2⟩⟩⟩
theorem ptd_not (h : PTD X W a t) : PTD X W (.UnaryOp .Not a pos) (dNot t) :=
  ⟨PTimp (pt_not h.run) fun σ H Q ⟨τ, M, Qd, Ed, hs, hr, q, we, k⟩ => ⟨τ, M, _, Ed, hs, hr, q, we, fun c M1 H1 q1 e1 h1 => k _ M1 H1 q1 e1 h1⟩⟩
/-- .. as values, all but the last bools -/
def dAndV (t u : DE) : DE := fun τ M Q E => t τ M (fun d M1 => match d with | .bl c => if c = true then u τ M1 Q E else Q (.bl false) M1 | _ => False) E
def dOrV (t u : DE) : DE := fun τ M Q E => t τ M (fun d M1 => match d with | .bl c => if c = true then Q (.bl true) M1 else u τ M1 Q E | _ => False) E
def dNotV (t : DE) : DE := fun τ M Q E => t τ M (fun d M1 => match d with | .bl c => Q (.bl (!c)) M1 | _ => False) E
theorem pd_one {op : BoolOp} (h : PD X W a te) : PD X W (.BoolOp op [a] pos) te := ⟨pe_one h.run⟩
theorem pd_and (h : PD X W a te) (hb : PD X W (.BoolOp .And (b :: rest) pos) ue) : PD X W (.BoolOp .And (a :: b :: rest) pos) (dAndV te ue) :=
  ⟨PEimp (pe_and h.run hb.run) fun σ H Q ⟨τ, M, Qd, Ed, hs, hr, q, we, k⟩ => ⟨τ, M, _, Ed, hs, hr, q, we, fun d M1 v H1 q1 e1 r1 h1 => by
    dsimp only at q1
    split at q1
    · rename_i c
      refine ⟨c, r1.toBl, ?_⟩
      cases c with
      | true => exact ⟨τ, M1, Qd, Ed, hs.mono e1, h1, q1, we, k.mono e1⟩
      | false => exact k _ M1 _ H1 (by simpa using q1) e1 (.bl _) h1
    · exact q1.elim⟩⟩
theorem pd_or (h : PD X W a te) (hb : PD X W (.BoolOp .Or (b :: rest) pos) ue) : PD X W (.BoolOp .Or (a :: b :: rest) pos) (dOrV te ue) :=
  ⟨PEimp (pe_or h.run hb.run) fun σ H Q ⟨τ, M, Qd, Ed, hs, hr, q, we, k⟩ => ⟨τ, M, _, Ed, hs, hr, q, we, fun d M1 v H1 q1 e1 r1 h1 => by
    dsimp only at q1
    split at q1
    · rename_i c
      refine ⟨c, r1.toBl, ?_⟩
      cases c with
      | true => exact k _ M1 _ H1 (by simpa using q1) e1 (.bl _) h1
      | false => exact ⟨τ, M1, Qd, Ed, hs.mono e1, h1, (by simpa using q1), we, k.mono e1⟩
    · exact q1.elim⟩⟩
theorem pd_not (h : PD X W a te) : PD X W (.UnaryOp .Not a pos) (dNotV te) :=
  ⟨PEimp (pe_not h.run) fun σ H Q ⟨τ, M, Qd, Ed, hs, hr, q, we, k⟩ => ⟨τ, M, _, Ed, hs, hr, q, we, fun d M1 v H1 q1 e1 r1 h1 => by
    dsimp only at q1
    split at q1
    · exact ⟨_, r1.toBl, k _ M1 _ H1 q1 e1 (.bl _) h1⟩
    · exact q1.elim⟩⟩
def dNeg (t : DE) : DE := fun τ M Q E => t τ M (fun d M1 => match d with | .int i => Q (.int (-i)) M1 | _ => False) E
theorem pd_neg (h : PD X W a te) : PD X W (.UnaryOp .USub a pos) (dNeg te) :=
  ⟨PEimp (pe_un un_neg h.run) fun σ H Q ⟨τ, M, Qd, Ed, hs, hr, q, we, k⟩ => ⟨τ, M, _, Ed, hs, hr, q, we, fun d M1 v H1 q1 e1 r1 h1 => by
    dsimp only at q1
    split at q1
    · exact ⟨_, r1.toInt, k _ M1 _ H1 q1 e1 (.int _) h1⟩
    · exact q1.elim⟩⟩
end
end
end DL

set_option maxHeartbeats 4000000
namespace DL
open PySem L2
section
variable {X : Cx} {W : DW} {e a b o : Expr} {es : List Expr} {te ta tb : DE} {t : DA} {pos p apos : Pos}

/-! ### argument lists, displays -/
def dNil : DA := fun _ M Q _ => Q [] M
def dCons (te : DE) (t : DA) : DA := fun τ M Q E => te τ M (fun d M1 => t τ M1 (fun ds M2 => Q (d :: ds) M2) E) E
theorem pad_nil : PAD X W [] dNil := ⟨PAimp pa_nil fun σ H Q ⟨τ, M, Qd, Ed, hs, hr, q, we, k⟩ => k [] M [] H q .refl .nil hr⟩
theorem pad_cons (he : PD X W e te) (h : PAD X W es t) (hs : starEach (e :: es) X.env = (false, eval e X.env) :: starEach es X.env := by rfl) : PAD X W (e :: es) (dCons te t) :=
  ⟨PAimp (pa_cons he.run h.run hs) fun σ H Q ⟨τ, M, Qd, Ed, hs, hr, q, we, k⟩ => ⟨τ, M, _, Ed, hs, hr, q, we, fun d M1 v H1 q1 e1 r1 h1 =>
    ⟨τ, M1, _, Ed, hs.mono e1, h1, q1, we, fun ds M2 vs H2 q2 e2 r2 h2 => k (d :: ds) M2 (v :: vs) H2 q2 (e1.trans e2) (.cons (r1.mono e2) r2) h2⟩⟩⟩
def dTup (t : DA) : DE := fun τ M Q E => t τ M (fun ds M1 => ds.length ≤ sizeLine ∧ Q (.tup ds) M1) E
def dLst (t : DA) : DE := fun τ M Q E => t τ M (fun ds M1 => ds.length ≤ sizeLine ∧ ∀ p, M1 p = none → Q (.ref p) (put M1 p (.lst ds))) E
theorem pd_tup {x1} (h : PAD X W es t) : PD X W (.Tuple es x1 pos) (dTup t) :=
  ⟨PEimp (pe_tup h.run) fun σ H Q ⟨τ, M, Qd, Ed, hs, hr, q, we, k⟩ => ⟨τ, M, _, Ed, hs, hr, q, we, fun ds M1 vs H1 q1 e1 r1 h1 =>
    ⟨by rw [r1.length]; exact q1.1, fun p hp => (k.mono e1).tup h1 r1 hp q1.2⟩⟩⟩
theorem pd_lst (h : PAD X W es t) : PD X W (.List es pos) (dLst t) :=
  ⟨PEimp (pe_lst h.run) fun σ H Q ⟨τ, M, Qd, Ed, hs, hr, q, we, k⟩ => ⟨τ, M, _, Ed, hs, hr, q, we, fun ds M1 vs H1 q1 e1 r1 h1 =>
    ⟨by rw [r1.length]; exact q1.1, fun p hp => (k.mono e1).lst h1 r1 hp q1.2⟩⟩⟩

/-! ### calls of what is built in -/
abbrev DG := List D → Mp → DK → Prop
def liftC (K : PySem.W.Frag) (g : DG) : List V → Hp → VK → Prop := fun xs H Q => ∃ ds M Qd, g ds M Qd ∧ RpL K H xs ds ∧ HR K H M ∧ KC K H Qd Q
def dCB (g : DG) (t : DA) : DE := fun τ M Q E => t τ M (fun ds M1 => g ds M1 Q) E
theorem dCB_lift {g : DG} {σ : St} {H : Hp} {Q : VK} (h : liftE X.K W (dCB g t) σ H Q) : tCB (liftC X.K g) (liftA X.K W t) σ H Q := by
  obtain ⟨τ, M, Qd, Ed, hs, hr, q, we, k⟩ := h
  exact ⟨τ, M, _, Ed, hs, hr, q, we, fun ds M1 vs H1 q1 e1 r1 h1 => ⟨ds, M1, Qd, q1, r1, h1, k.mono e1⟩⟩
theorem CallRimp {f : Value} {r r' : List V → Hp → VK → Prop} (h : CallR X f r) (i : ∀ xs H Q, r' xs H Q → r xs H Q) : CallR X f r' := fun pins s σ H xs us Q I rs q => h pins s σ H xs us Q I rs (i xs H Q q)
theorem pd_callB {id : String} {x : Str} {g : DG} (hc : CallR X (.builtin id) (liftC X.K g)) (hg : Gl X x) (hm : X.mg x = none) (hv : bootBuiltins x = some (.builtin id)) (ha : PAD X W (e :: es) t) (hn : x ≠ "__name__" := by decide) (hdb : (x == ("__debug__" : Str)) = false := by decide)
    (he : starEach (e :: es) X.env = (false, eval e X.env) :: starEach es X.env := by rfl) (hpl : (backTo pos (starEach es X.env)).any (·.1) = false := by rfl) :
    PD X W (.Call (.Name x p) (e :: es) [] pos) (dCB g t) := ⟨PEimp (pe_callB hc hg hm hv ha.run hn hdb he hpl) fun _ _ _ h => dCB_lift h⟩
theorem pd_callT {T : String} {x : Str} {g : DG} (hc : CallR X (.type T) (liftC X.K g)) (hg : Gl X x) (hm : X.mg x = none) (hv : bootBuiltins x = some (.type T)) (ha : PAD X W (e :: es) t) (hn : x ≠ "__name__" := by decide) (hdb : (x == ("__debug__" : Str)) = false := by decide)
    (he : starEach (e :: es) X.env = (false, eval e X.env) :: starEach es X.env := by rfl) (hpl : (backTo pos (starEach es X.env)).any (·.1) = false := by rfl) :
    PD X W (.Call (.Name x p) (e :: es) [] pos) (dCB g t) := ⟨PEimp (pe_callTy hc hg hm hv ha.run hn hdb he hpl) fun _ _ _ h => dCB_lift h⟩
theorem RpL.one {K : PySem.W.Frag} {H : Hp} {vs : List V} {d : D} (h : RpL K H vs [d]) : ∃ v, vs = [v] ∧ Rp K H v d := by
  cases h with
  | cons r l => cases l; exact ⟨_, rfl, r⟩
theorem RpL.two {K : PySem.W.Frag} {H : Hp} {vs : List V} {d d' : D} (h : RpL K H vs [d, d']) : ∃ v v', vs = [v, v'] ∧ Rp K H v d ∧ Rp K H v' d' := by
  cases h with
  | cons r l => obtain ⟨v, rfl, q⟩ := l.one; exact ⟨_, _, rfl, r, q⟩
/-- len -/
def lenD (d : D) (M : Mp) : Option Nat := match d with
  | .tup xs => some xs.length
  | .str x => if x.length ≤ sizeLine then some x.length else none
  | .ref a => match M a with
    | some (.lst xs) => some xs.length
    | some (.rol xs) => some xs.length
    | _ => none
  | _ => none
def lenG : DG := fun ds M Q => match ds with
  | [d] => match lenD d M with
    | some n => Q (.int n) M
    | none => False
  | _ => False
theorem HR.rol {K : PySem.W.Frag} {H : Hp} {M : Mp} {a : Addr} {ds : List D} (h : HR K H M) (e : M a = some (.rol ds)) : ∃ o xs, H a = some (.frz o (.lst xs)) ∧ RpL K H xs ds := h a _ e
/-- the items of a list that is read -/
def seqOf (M : Mp) (a : Addr) : Option (List D) := match M a with
  | some (.lst xs) => some xs
  | some (.rol xs) => some xs
  | _ => none
theorem seqOf_ok {K : PySem.W.Frag} {H : Hp} {M : Mp} {a : Addr} {ds : List D} (hr : HR K H M) (h : seqOf M a = some ds) : ∃ xs, SqL K H a xs ∧ RpL K H xs ds := by
  unfold seqOf at h
  cases e : M a with
  | none => rw [e] at h; cases h
  | some o =>
    rw [e] at h
    cases o with
    | lst xs => cases h; obtain ⟨vs, q, l⟩ := hr.lst e; exact ⟨vs, .of q, l⟩
    | rol xs => cases h; obtain ⟨o, vs, q, l⟩ := hr.rol e; exact ⟨vs, .inl (.inr ⟨o, q⟩), l⟩
    | dk xs => cases h
    | ins C xs => cases h
    | xd xs => cases h
theorem lenD_ok {K : PySem.W.Frag} {H : Hp} {M : Mp} {v : V} {d : D} {n : Nat} (r : Rp K H v d) (hr : HR K H M) (h : lenD d M = some n) : LenV K v H n := by
  cases d with
  | tup xs =>
    obtain ⟨a, vs, rfl, s, l⟩ := r.toTup
    cases h
    exact .inr ⟨vs, s, l.length.symm⟩
  | str x =>
    cases r
    have h' : (if x.length ≤ sizeLine then some x.length else none) = some n := h
    by_cases c : x.length ≤ sizeLine
    · rw [if_pos c] at h'; cases h'; exact ⟨c, rfl⟩
    · rw [if_neg c] at h'; cases h'
  | ref a =>
    cases r
    have h' : (match M a with | some (.lst xs) => some xs.length | some (.rol xs) => some xs.length | _ => none) = some n := h
    have : ∃ ds, seqOf M a = some ds ∧ ds.length = n := by
      unfold seqOf
      cases e : M a with
      | none => rw [e] at h'; cases h'
      | some o => rw [e] at h'; cases o <;> first | (cases h'; exact ⟨_, rfl, rfl⟩) | cases h'
    obtain ⟨ds, e, rfl⟩ := this
    obtain ⟨xs, s, l⟩ := seqOf_ok hr e
    exact .inl ⟨xs, s, l.length.symm⟩
  | _ => cases h
theorem call_lenG : CallR X (.builtin "len") (liftC X.K lenG) := CallRimp call_len fun xs H Q ⟨ds, M, Qd, q, r, hr, k⟩ => by
  unfold lenG at q
  split at q
  · rename_i d
    obtain ⟨v, rfl, rv⟩ := r.one
    split at q
    · rename_i n e
      exact ⟨v, n, rfl, lenD_ok rv hr e, k _ M _ H q .refl (.int _) hr⟩
    · exact q.elim
  · exact q.elim
/-- int(n), int(flag) -/
def intG : DG := fun ds M Q => match ds with
  | [.int i] => Q (.int i) M
  | [.bl b] => Q (.int (if b then 1 else 0)) M
  | _ => False
theorem call_intG : CallR X (.type "int") (liftC X.K intG) := CallRimp call_int1 fun xs H Q ⟨ds, M, Qd, q, r, hr, k⟩ => by
  unfold intG at q
  split at q
  · obtain ⟨v, rfl, rv⟩ := r.one
    rw [rv.toInt]
    exact .inl ⟨_, rfl, k _ M _ H q .refl (.int _) hr⟩
  · obtain ⟨v, rfl, rv⟩ := r.one
    rw [rv.toBl]
    exact .inr ⟨_, rfl, k _ M _ H q .refl (.int _) hr⟩
  · exact q.elim
/-- tuple(..), list(..) -/
def tupG : DG := fun ds M Q => match ds with
  | [.tup xs] => Q (.tup xs) M
  | [.ref a] => match seqOf M a with
    | some xs => Q (.tup xs) M
    | none => False
  | _ => False
theorem call_tupG : CallR X (.type "tuple") (liftC X.K tupG) := CallRimp call_tuple_of fun xs H Q ⟨ds, M, Qd, q, r, hr, k⟩ => by
  unfold tupG at q
  split at q
  · obtain ⟨v, rfl, rv⟩ := r.one
    obtain ⟨a, vs, rfl, s, l⟩ := rv.toTup
    exact ⟨a, vs, rfl, .inr ⟨s, k _ M _ H q .refl (.tup s l) hr⟩⟩
  · obtain ⟨v, rfl, rv⟩ := r.one
    rw [rv.toRef]
    split at q
    · rename_i xs e
      obtain ⟨vs, s, l⟩ := seqOf_ok hr e
      exact ⟨_, vs, rfl, .inl ⟨s, fun p hp => k.tup hr l hp q⟩⟩
    · exact q.elim
  · exact q.elim
def lstG : DG := fun ds M Q => match ds with
  | [.tup xs] => ∀ p, M p = none → Q (.ref p) (put M p (.lst xs))
  | [.ref a] => match seqOf M a with
    | some xs => ∀ p, M p = none → Q (.ref p) (put M p (.lst xs))
    | none => False
  | _ => False
theorem call_lstG : CallR X (.type "list") (liftC X.K lstG) := CallRimp call_list_of fun xs H Q ⟨ds, M, Qd, q, r, hr, k⟩ => by
  unfold lstG at q
  split at q
  · obtain ⟨v, rfl, rv⟩ := r.one
    obtain ⟨a, vs, rfl, s, l⟩ := rv.toTup
    exact ⟨a, vs, rfl, .inr s, fun p hp => k.lst hr l hp q⟩
  · obtain ⟨v, rfl, rv⟩ := r.one
    rw [rv.toRef]
    split at q
    · rename_i xs e
      obtain ⟨vs, s, l⟩ := seqOf_ok hr e
      exact ⟨_, vs, rfl, .inl s, fun p hp => k.lst hr l hp q⟩
    · exact q.elim
  · exact q.elim
/-- all, any of a list of bools -/
def blsOf : List D → Option (List Bool)
  | [] => some []
  | .bl b :: ds => (blsOf ds).map (b :: ·)
  | _ :: _ => none
theorem blsOf_map : ∀ bs : List Bool, blsOf (bs.map D.bl) = some bs
  | [] => rfl
  | b :: bs => by simp [blsOf, blsOf_map bs]
theorem blsOf_ok : ∀ {ds : List D} {bs : List Bool}, blsOf ds = some bs → ds = bs.map D.bl
  | [], bs, h => by cases h; rfl
  | d :: ds, bs, h => by
    cases d with
    | bl b =>
      have h' : (blsOf ds).map (b :: ·) = some bs := h
      cases e : blsOf ds with
      | none => rw [e] at h'; cases h'
      | some cs => rw [e] at h'; cases h'; rw [blsOf_ok e]; rfl
    | _ => cases h
def allG (f : List Bool → Bool) : DG := fun ds M Q => match ds with
  | [.ref a] => match (seqOf M a).bind blsOf with
    | some bs => Q (.bl (f bs)) M
    | none => False
  | _ => False
theorem allG_of {id : String} {f : List Bool → Bool} (h : CallR X (.builtin id) fun vs H Q => ∃ (a : Addr) (bs : List Bool), vs = [V.ref a] ∧ SqL X.K H a (bs.map V.bl) ∧ Q (.bl (f bs)) H) : CallR X (.builtin id) (liftC X.K (allG f)) := CallRimp h fun xs H Q ⟨ds, M, Qd, q, r, hr, k⟩ => by
  unfold allG at q
  split at q
  · obtain ⟨v, rfl, rv⟩ := r.one
    rw [rv.toRef]
    split at q
    · rename_i bs e
      obtain ⟨ds, e1, e2⟩ := Option.bind_eq_some_iff.mp e
      obtain ⟨vs, s, l⟩ := seqOf_ok hr e1
      have e3 := blsOf_ok e2
      subst e3
      exact ⟨_, bs, rfl, by rw [← l.bls]; exact s, k _ M _ H q .refl (.bl _) hr⟩
    · exact q.elim
  · exact q.elim
theorem call_allG (hc : X.calm = true) : CallR X (.builtin "all") (liftC X.K (allG fun bs => bs.all id)) := allG_of (cr_all hc)
theorem call_anyG (hc : X.calm = true) : CallR X (.builtin "any") (liftC X.K (allG fun bs => bs.any id)) := allG_of (cr_any hc)
/-- max, min of two ints -/
def mmG (f : Int → Int → Int) : DG := fun ds M Q => match ds with
  | [.int i, .int j] => Q (.int (f i j)) M
  | _ => False
theorem call_maxG (hc : X.calm = true) : CallR X (.builtin "max") (liftC X.K (mmG fun i j => if j > i then j else i)) := CallRimp (call_max2 hc) fun xs H Q ⟨ds, M, Qd, q, r, hr, k⟩ => by
  unfold mmG at q
  split at q
  · obtain ⟨v, v', rfl, rv, rv'⟩ := r.two
    rw [rv.toInt, rv'.toInt]
    exact ⟨_, _, rfl, k _ M _ H q .refl (.int _) hr⟩
  · exact q.elim
theorem call_minG (hc : X.calm = true) : CallR X (.builtin "min") (liftC X.K (mmG fun i j => if j < i then j else i)) := CallRimp (call_min2 hc) fun xs H Q ⟨ds, M, Qd, q, r, hr, k⟩ => by
  unfold mmG at q
  split at q
  · obtain ⟨v, v', rfl, rv, rv'⟩ := r.two
    rw [rv.toInt, rv'.toInt]
    exact ⟨_, _, rfl, k _ M _ H q .refl (.int _) hr⟩
  · exact q.elim

/-! ### isinstance -/
/-- what the written part says of a class whose instances are asked -/
structure InsK (K : PySem.W.Frag) (C : Addr) : Prop where
  cl : Cls K C
  ha : PySem.W.findIn K (.ref C) "__class__" = some (some (.builtin "object.__class__"))
  hn : PySem.W.specialIn K (.builtin "object.__class__") "__get__" = some (some (.builtin "getset_descriptor.__get__"))
  htk : PySem.W.takesIn K (.builtin "object.__class__") = some true
  hm : PySem.W.mroIn K C (.type "object") = some true
def tyName (d : D) (M : Mp) : Option String := match d with
  | .non => some "NoneType"
  | .bl _ => some "bool"
  | .int _ => some "int"
  | .str _ => some "str"
  | .tup _ => some "tuple"
  | .ref a => match M a with
    | some (.lst _) => some "list"
    | some (.rol _) => some "list"
    | some (.dk _) => some "dict"
    | _ => none
  | .ty _ => none
def clsOf (d : D) (M : Mp) : Option Addr := match d with
  | .ref a => match M a with
    | some (.ins C _) => some C
    | _ => none
  | _ => none
theorem tyName_ok {K : PySem.W.Frag} {H : Hp} {M : Mp} {v : V} {d : D} {n : String} (r : Rp K H v d) (hr : HR K H M) (h : tyName d M = some n) : TyX K H v (.type n) := by
  cases d with
  | non => cases r; cases h; exact .base .non
  | bl b => cases r; cases h; exact .base (.bl b)
  | int b => cases r; cases h; exact .base (.int b)
  | str b => cases r; cases h; exact .base (.str b)
  | tup xs =>
    obtain ⟨a, vs, rfl, s, l⟩ := r.toTup
    cases h
    rcases s with (s | ⟨o, s⟩) | ⟨o, its, m, s, c, _⟩
    · exact .base (.tup s)
    · exact .fTuple s
    · exact .kTuple s c
  | ref a =>
    cases r
    have h' : (match M a with | some (.lst _) => some "list" | some (.rol _) => some "list" | some (.dk _) => some "dict" | _ => none) = some n := h
    cases e : M a with
    | none => rw [e] at h'; cases h'
    | some o =>
      rw [e] at h'
      cases o with
      | lst xs => cases h'; obtain ⟨vs, q, _⟩ := hr.lst e; exact .base (.lst q)
      | rol xs => cases h'; obtain ⟨o, vs, q, _⟩ := hr.rol e; exact .base (.frz q)
      | dk xs => cases h'; obtain ⟨vs, q, _⟩ := hr.dk e; exact .base (.dK q)
      | ins C xs => cases h'
      | xd xs => cases h'
  | ty n => cases h
theorem clsOf_ok {K : PySem.W.Frag} {H : Hp} {M : Mp} {v : V} {d : D} {C : Addr} (r : Rp K H v d) (hr : HR K H M) (h : clsOf d M = some C) (i : InsK K C) : TyX K H v (.ref C) := by
  cases d with
  | ref a =>
    cases r
    have h' : (match M a with | some (.ins C _) => some C | _ => none) = some C := h
    cases e : M a with
    | none => rw [e] at h'; cases h'
    | some o =>
      rw [e] at h'
      cases o with
      | ins C' xs => cases h'; obtain ⟨dx, vs, q, _⟩ := hr.ins e; exact .base (.ins q i.cl i.ha i.hn i.htk i.hm)
      | _ => cases h'
  | _ => cases h
def isB (a b : String) : Bool := decide (a = b) || (decide (a = "bool") && decide (b = "int"))
theorem kit_isB {a b : String} (ha : a ∈ ["NoneType", "bool", "int", "str", "tuple", "list", "dict"]) (hb : b ∈ ["bool", "int", "str", "tuple", "list", "dict"]) : kitB a b = some (isB a b) := by
  simp only [List.mem_cons, List.not_mem_nil, or_false] at ha hb
  rcases ha with rfl | rfl | rfl | rfl | rfl | rfl | rfl <;> rcases hb with rfl | rfl | rfl | rfl | rfl | rfl <;> decide +kernel
theorem tyName_mem {d : D} {M : Mp} {n : String} (h : tyName d M = some n) : n ∈ ["NoneType", "bool", "int", "str", "tuple", "list", "dict"] := by
  cases d with
  | ref a =>
    have h' : (match M a with | some (.lst _) => some "list" | some (.rol _) => some "list" | some (.dk _) => some "dict" | _ => none) = some n := h
    cases e : M a with
    | none => rw [e] at h'; cases h'
    | some o => rw [e] at h'; cases o <;> first | (cases h'; simp) | cases h'
  | ty n => cases h
  | _ => cases h; simp
def isiG (K : PySem.W.Frag) : DG := fun ds M Q => match ds with
  | [x, .ty b] => b ∈ ["bool", "int", "str", "tuple", "list", "dict"] ∧ match tyName x M with
    | some a => Q (.bl (isB a b)) M
    | none => ∃ C, clsOf x M = some C ∧ InsK K C ∧ PySem.W.kitOne K (.ref C) (.type b) = some false ∧ Q (.bl false) M
  | [x, .ref C'] => match tyName x M with
    | some a => PySem.W.kitOne K (.type a) (.ref C') = some false ∧ Q (.bl false) M
    | none => ∃ C r, clsOf x M = some C ∧ InsK K C ∧ PySem.W.kitOne K (.ref C) (.ref C') = some r ∧ Q (.bl r) M
  | _ => False
theorem call_isiG : CallR X (.builtin "isinstance") (liftC X.K (isiG X.K)) := CallRimp call_isi fun xs H Q ⟨ds, M, Qd, q, r, hr, k⟩ => by
  unfold isiG at q
  split at q
  · rename_i x b
    obtain ⟨v, v', rfl, rv, rv'⟩ := r.two
    rw [rv'.toTy]
    obtain ⟨hb, q⟩ := q
    split at q
    · rename_i a ea
      exact ⟨v, _, _, _, _, rfl, .ty b, tyName_ok rv hr ea, kit_ty (kit_isB (tyName_mem ea) hb), k _ M _ H q .refl (.bl _) hr⟩
    · obtain ⟨C, ec, i, kk, q⟩ := q
      exact ⟨v, _, _, _, _, rfl, .ty b, clsOf_ok rv hr ec i, kk, k _ M _ H q .refl (.bl _) hr⟩
  · rename_i x C'
    obtain ⟨v, v', rfl, rv, rv'⟩ := r.two
    rw [rv'.toRef]
    split at q
    · rename_i a ea
      exact ⟨v, _, _, _, _, rfl, .own C', tyName_ok rv hr ea, q.1, k _ M _ H q.2 .refl (.bl _) hr⟩
    · obtain ⟨C, r, ec, i, kk, q⟩ := q
      exact ⟨v, _, _, _, _, rfl, .own C', clsOf_ok rv hr ec i, kk, k _ M _ H q .refl (.bl _) hr⟩
  · exact q.elim

/-! ### subscripts, slices, attributes -/
def ixG : DO := fun x y M Q => match x, y with
  | .tup xs, .int i => match atI xs i with
    | some d => Q d M
    | none => False
  | .ref a, .int i => match (seqOf M a).bind (atI · i) with
    | some d => Q d M
    | none => False
  | .str z, .int i => z.length ≤ sizeLine ∧ match atI z.cps.toList i with
    | some c => Q (.str ⟨#[c]⟩) M
    | none => False
  | _, _ => False
theorem RpL.atI {K : PySem.W.Frag} {H : Hp} {xs : List V} {ds : List D} {i : Int} {d : D} (l : RpL K H xs ds) (h : L2.atI ds i = some d) : ∃ v, L2.atI xs i = some v ∧ Rp K H v d := by
  unfold L2.atI at h ⊢
  rw [l.length]
  obtain ⟨j, e1, e2⟩ := Option.bind_eq_some_iff.mp h
  obtain ⟨v, e3, r⟩ := l.get e2
  exact ⟨v, by rw [e1]; exact e3, r⟩
theorem IxRimp {r r' : R2} (h : IxR X r) (i : ∀ x y H Q, r' x y H Q → r x y H Q) : IxR X r' := fun value slice pins s σ H x y v u Q I rx ry q hs => h value slice pins s σ H x y v u Q I rx ry (i x y H Q q) hs
theorem ix_G : IxR X (liftO X.K ixG) := IxRimp ix_seq fun x y H Q ⟨dx, dy, M, Qd, q, a, b, c, k⟩ => by
  unfold ixG at q
  split at q
  · obtain ⟨p, vs, rfl, s, l⟩ := a.toTup
    split at q
    · rename_i d e
      obtain ⟨v, ev, rv⟩ := l.atI e
      exact .inr (.inl ⟨p, vs, _, v, rfl, b.toInt, s, ev, k _ M _ H q .refl rv c⟩)
    · exact q.elim
  · split at q
    · rename_i d e
      obtain ⟨xs, e1, e2⟩ := Option.bind_eq_some_iff.mp e
      obtain ⟨vs, s, l⟩ := seqOf_ok c e1
      obtain ⟨v, ev, rv⟩ := l.atI e2
      exact .inl ⟨_, vs, _, v, a.toRef, b.toInt, s, ev, k _ M _ H q .refl rv c⟩
    · exact q.elim
  · obtain ⟨hz, q⟩ := q
    split at q
    · rename_i d e
      exact .inr (.inr ⟨_, _, _, a.toStr, b.toInt, hz, e, k _ M _ H q .refl (.str _) c⟩)
    · exact q.elim
  · exact q.elim
theorem pd_ix {g : DO} (hg : IxR X (liftO X.K g)) (ha : PD X W a ta) (hb : PD X W b tb) (hs : PlainIx b) : PD X W (.Subscript a b pos) (dOp g ta tb) :=
  ⟨PEimp (pe_ix hg ha.run hb.run hs) fun _ _ _ h => dOp_lift h⟩
/-- a slice's part -/
abbrev DP := Sl → Mp → (Option Int → Mp → Prop) → EK → Prop
def liftP (K : PySem.W.Frag) (W : DW) (t : DP) : TO := fun σ H Q => ∃ τ M Qd Ed, RS K W.h0 H σ τ ∧ HR K H M ∧ t τ M Qd Ed ∧ (∀ x M', Ed x M' → W.w x τ M') ∧ (∀ b M' H', Qd b M' → TExt K H H' → HR K H' M' → Q b H')
structure POD (X : Cx) (W : DW) (e : Option Expr) (t : DP) : Prop where
  run : PO X e (liftP X.K W t)
def dNoP : DP := fun _ M Q _ => Q none M
def dPart (t : DE) : DP := fun τ M Q E => t τ M (fun d M1 => match d with | .int i => Q (some i) M1 | _ => False) E
theorem POimp {e : Option Expr} {t t' : TO} (h : PO X e t) (i : ∀ σ H Q, t' σ H Q → t σ H Q) : PO X e t' := ⟨fun pins s σ H Q I q => h.run pins s σ H Q I (i σ H Q q)⟩
theorem pod_none : POD X W none dNoP := ⟨POimp po_none fun σ H Q ⟨τ, M, Qd, Ed, hs, hr, q, we, k⟩ => k none M H q .refl hr⟩
theorem pod_some (h : PD X W e te) : POD X W (some e) (dPart te) := ⟨POimp (po_some h.run) fun σ H Q ⟨τ, M, Qd, Ed, hs, hr, q, we, k⟩ => ⟨τ, M, _, Ed, hs, hr, q, we, fun d M1 v H1 q1 e1 r1 h1 => by
  dsimp only at q1
  split at q1
  · exact ⟨_, r1.toInt, k _ M1 H1 q1 e1 h1⟩
  · exact q1.elim⟩⟩
def cutD (xs : List D) (lo hi : Option Int) : List D := (xs.drop (HT.sIx xs.length 0 lo)).take (HT.sIx xs.length xs.length hi - HT.sIx xs.length 0 lo)
theorem RpL.cut {K : PySem.W.Frag} {H : Hp} {xs : List V} {ds : List D} {lo hi : Option Int} (l : RpL K H xs ds) : RpL K H (cutV xs lo hi) (cutD ds lo hi) := by
  unfold cutV cutD
  rw [l.length]
  exact (l.drop _).take _
def slG (x : D) (lo hi : Option Int) (M : Mp) (Q : DK) : Prop := match x with
  | .tup xs => Q (.tup (cutD xs lo hi)) M
  | .ref a => match seqOf M a with
    | some xs => ∀ p, M p = none → Q (.ref p) (put M p (.lst (cutD xs lo hi)))
    | none => False
  | .str z => z.length ≤ sizeLine ∧ Q (.str (cutS z lo hi)) M
  | _ => False
theorem sIx_whole {n : Nat} {lo hi : Option Int} {xs : List D} (hn : xs.length = n) (h : HT.sIx n 0 lo = 0 ∧ HT.sIx n n hi = n) : cutD xs lo hi = xs := by
  unfold cutD
  rw [hn, h.1, h.2, ← hn]
  simp
def dSl (te : DE) (tl th : DP) : DE := fun τ M Q E => te τ M (fun x M1 => tl τ M1 (fun lo M2 => th τ M2 (fun hi M3 => slG x lo hi M3 Q) E) E) E
def liftSl (K : PySem.W.Frag) : V → Option Int → Option Int → Hp → VK → Prop := fun x lo hi H Q => ∃ d M Qd, slG d lo hi M Qd ∧ Rp K H x d ∧ HR K H M ∧ KC K H Qd Q
theorem sl_G : SlR X (liftSl X.K) := by
  have h := (sl_tupA (X := X)).or ((sl_list (X := X)).or (sl_str (X := X)))
  intro pins s σ H x v vl vu lo hi sl Q I rx hs pl pu ⟨d, M, Qd, q, r, hr, k⟩
  refine h pins s σ H x v vl vu lo hi sl Q I rx hs pl pu ?_
  unfold slG at q
  split at q
  · obtain ⟨p, vs, rfl, s, l⟩ := r.toTup
    refine .inl ⟨p, vs, rfl, s, fun hw => ?_, fun _ p hp => k.tup hr l.cut hp q⟩
    rw [sIx_whole l.length.symm hw] at q
    exact k _ M _ H q .refl (.tup s l) hr
  · split at q
    · rename_i xs e
      obtain ⟨vs, s, l⟩ := seqOf_ok hr e
      exact .inr (.inl ⟨_, vs, r.toRef, s, fun p hp => k.lst hr l.cut hp q⟩)
    · exact q.elim
  · exact .inr (.inr ⟨_, r.toStr, q.1, k _ M _ H q.2 .refl (.str _) hr⟩)
  · exact q.elim
theorem pd_slice {lo hi : Option Expr} {tl th : DP} {p2 : Pos} (he : PD X W e te) (hl : POD X W lo tl) (hh : POD X W hi th) : PD X W (.Subscript e (.Slice lo hi none p2) pos) (dSl te tl th) :=
  ⟨PEimp (pe_slice sl_G he.run hl.run hh.run) fun σ H Q ⟨τ, M, Qd, Ed, hs, hr, q, we, k⟩ => ⟨τ, M, _, Ed, hs, hr, q, we, fun x M1 v H1 q1 e1 r1 h1 =>
    ⟨τ, M1, _, Ed, hs.mono e1, h1, q1, we, fun lo M2 H2 q2 e2 h2 => ⟨τ, M2, _, Ed, hs.mono (e1.trans e2), h2, q2, we, fun hi M3 H3 q3 e3 h3 =>
      ⟨x, M3, Qd, q3, r1.mono (e2.trans e3), h3, k.mono (e1.trans (e2.trans e3))⟩⟩⟩⟩⟩
/-- an attribute of an instance -/
def FldK (K : PySem.W.Frag) (C : Addr) (f : Str) : Prop := Cls K C ∧ NoAttr K C f
def dFld (K : PySem.W.Frag) (te : DE) (f : Str) : DE := fun τ M Q E => te τ M (fun d M1 => match d with
  | .ref a => match M1 a with
    | some (.ins C fs) => FldK K C f ∧ match fs.lookup f with
      | some v => Q v M1
      | none => False
    | _ => False
  | _ => False) E
theorem FD.look {K : PySem.W.Frag} {H : Hp} {f : Str} : ∀ {vs : List (Str × V)} {fs : List (Str × D)}, FD K H vs fs → ∀ {d : D}, fs.lookup f = some d → ∃ v, vs.lookup f = some v ∧ Rp K H v d
  | [], [], _, d, h => by cases h
  | p :: ps, q :: qs, ⟨e, r, l⟩, d, h => by
    obtain ⟨p1, p2⟩ := p
    obtain ⟨q1, q2⟩ := q
    simp only at e r
    subst e
    by_cases c : (f == p1) = true
    · rw [List.lookup_cons, c] at h ⊢
      cases h
      exact ⟨p2, rfl, r⟩
    · have c' : (f == p1) = false := by simpa using c
      rw [List.lookup_cons, c'] at h ⊢
      exact FD.look l h
  | [], _ :: _, h, _, _ => h.elim
  | _ :: _, [], h, _, _ => h.elim
theorem pd_fld {f : Str} (he : PD X W e te) (hb : attributeBase e f X.env (eval e X.env) = eval e X.env := by rfl) : PD X W (.Attribute e f pos) (dFld X.K te f) :=
  ⟨PEimp (pe_fld he.run hb) fun σ H Q ⟨τ, M, Qd, Ed, hs, hr, q, we, k⟩ => ⟨τ, M, _, Ed, hs, hr, q, we, fun d M1 v H1 q1 e1 r1 h1 => by
    dsimp only at q1
    split at q1
    · rename_i a
      split at q1
      · rename_i C fs ea
        obtain ⟨⟨c, n⟩, q1⟩ := q1
        split at q1
        · rename_i y ey
          obtain ⟨dx, vs, hv, fd⟩ := h1.ins ea
          obtain ⟨w, ew, rw'⟩ := fd.look ey
          exact ⟨a, C, dx, vs, w, r1.toRef, hv, c, n, ew, k _ M1 _ H1 q1 e1 rw' h1⟩
        · exact q1.elim
      · exact q1.elim
    · exact q1.elim⟩⟩
end
end DL

set_option maxHeartbeats 4000000
namespace DL
open PySem L2

/-! ### statements -/
section
variable {X : Cx} {W : DW} {e : Expr} {st : Stmt} {rest : List Stmt} {t u : DS} {te : DE} {pos : Pos}
def dNext : DS := fun Dn τ M => Dn.nx τ M
def dSeq (t u : DS) : DS := fun Dn τ M => t { Dn with nx := u Dn } τ M
theorem pssd_nil : PSsD X W [] dNext := ⟨PSsimp pss_nil fun De σ H ⟨τ, M, Dd, hs, hr, q, we, nc⟩ => nc.nx τ M σ H q .refl hs hr⟩
theorem pssd_cons (h1 : PSD X W st t) (h2 : PSsD X W rest u) : PSsD X W (st :: rest) (dSeq t u) :=
  ⟨PSsimp (pss_cons h1.run h2.run) fun De σ H ⟨τ, M, Dd, hs, hr, q, we, nc⟩ => ⟨τ, M, _, hs, hr, q, we,
    ⟨fun τ' M' σ' H' q' e' hs' hr' => ⟨τ', M', Dd, hs', hr', q', we, nc.mono e'⟩, nc.rt, nc.bk, nc.ct⟩⟩⟩
theorem pssd_one (h1 : PSD X W st t) : PSsD X W [st] t := ⟨PSsimp (pss_one h1.run) fun De σ H h => h⟩
def dBreak : DS := fun Dn τ M => Dn.bk τ M
def dCont : DS := fun Dn τ M => Dn.ct τ M
theorem psd_pass : PSD X W (.Pass pos) dNext := ⟨PSimp ps_pass fun De σ H ⟨τ, M, Dd, hs, hr, q, we, nc⟩ => nc.nx τ M σ H q .refl hs hr⟩
theorem psd_break : PSD X W (.Break pos) dBreak := ⟨PSimp ps_break fun De σ H ⟨τ, M, Dd, hs, hr, q, we, nc⟩ => nc.bk τ M σ H q .refl hs hr⟩
theorem psd_cont : PSD X W (.Continue pos) dCont := ⟨PSimp ps_continue fun De σ H ⟨τ, M, Dd, hs, hr, q, we, nc⟩ => nc.ct τ M σ H q .refl hs hr⟩
/-- what an expression lets out -/
abbrev exOf (Dn : DN) (τ : Sl) : EK := fun x M => Dn.ex x τ M
def dDrop (te : DE) : DS := fun Dn τ M => te τ M (fun _ M1 => Dn.nx τ M1) (exOf Dn τ)
theorem psd_expr (he : PD X W e te) (hs : swapsWith e none pos.line X.env = pure false := by rfl) : PSD X W (.Expr e pos) (dDrop te) :=
  ⟨PSimp (ps_expr he.run hs) fun De σ H ⟨τ, M, Dd, hs, hr, q, we, nc⟩ => ⟨τ, M, _, _, hs, hr, q, fun x M' h => we x τ M' h, fun d M1 v H1 q1 e1 r1 h1 => nc.nx τ M1 σ H1 q1 e1 (hs.mono e1) h1⟩⟩
def dRet (te : DE) : DS := fun Dn τ M => te τ M Dn.rt (exOf Dn τ)
theorem psd_ret (he : PD X W e te) : PSD X W (.Return (some e) pos) (dRet te) :=
  ⟨PSimp (ps_ret he.run) fun De σ H ⟨τ, M, Dd, hs, hr, q, we, nc⟩ => ⟨τ, M, _, _, hs, hr, q, fun x M' h => we x τ M' h, fun d M1 v H1 q1 e1 r1 h1 => nc.rt d M1 v H1 q1 e1 r1 h1⟩⟩
def dRetN : DS := fun Dn τ M => Dn.rt .non M
theorem psd_retN : PSD X W (.Return none pos) dRetN := ⟨PSimp ps_retN fun De σ H ⟨τ, M, Dd, hs, hr, q, we, nc⟩ => nc.rt .non M .non H q .refl .non hr⟩
def dIfS (c : DT) (t u : DS) : DS := fun Dn τ M => c τ M (fun b M1 => if b = true then t Dn τ M1 else u Dn τ M1) (exOf Dn τ)
theorem psd_if {c : Expr} {a b : List Stmt} {tc : DT} (hc : PTD X W c tc) (ha : PSsD X W a t) (hb : PSsD X W b u) : PSD X W (.If c a b pos) (dIfS tc t u) :=
  ⟨PSimp (ps_if hc.run ha.run hb.run) fun De σ H ⟨τ, M, Dd, hs, hr, q, we, nc⟩ => ⟨τ, M, _, _, hs, hr, q, fun x M' h => we x τ M' h, fun b M1 H1 q1 e1 h1 => by
    cases b with
    | true => exact ⟨τ, M1, Dd, hs.mono e1, h1, (by simpa using q1), we, nc.mono e1⟩
    | false => exact ⟨τ, M1, Dd, hs.mono e1, h1, (by simpa using q1), we, nc.mono e1⟩⟩⟩
def dNever : DS := fun _ _ _ => False
theorem psd_never : PSD X W st dNever := ⟨PSimp ps_never fun De σ H ⟨_, _, _, _, _, q, _⟩ => q⟩
/-- e if c else e' -/
def dIfE (c : DT) (t u : DE) : DE := fun τ M Q E => c τ M (fun b M1 => if b = true then t τ M1 Q E else u τ M1 Q E) E
theorem pd_ifE {c a b : Expr} {tc : DT} {ta tb : DE} (hc : PTD X W c tc) (ha : PD X W a ta) (hb : PD X W b tb) : PD X W (.IfExp c a b pos) (dIfE tc ta tb) :=
  ⟨PEimp (pe_ifExp hc.run ha.run hb.run) fun σ H Q ⟨τ, M, Qd, Ed, hs, hr, q, we, k⟩ => ⟨τ, M, _, Ed, hs, hr, q, we, fun b M1 H1 q1 e1 h1 => by
    cases b with
    | true => exact ⟨τ, M1, Qd, Ed, hs.mono e1, h1, (by simpa using q1), we, k.mono e1⟩
    | false => exact ⟨τ, M1, Qd, Ed, hs.mono e1, h1, (by simpa using q1), we, k.mono e1⟩⟩⟩
end

/-! ### targets -/
abbrev DGt := D → Sl → Mp → (Sl → Mp → Prop) → Prop
abbrev DGs := List D → Sl → Mp → (Sl → Mp → Prop) → Prop
section
variable (K : PySem.W.Frag)
def liftG (H0 : Hp) (g : DGt) : TG := fun v σ H Q => ∃ d τ M Qd, Rp K H v d ∧ RS K H0 H σ τ ∧ HR K H M ∧ g d τ M Qd ∧ ∀ τ' M' σ' H', Qd τ' M' → TExt K H H' → RS K H0 H' σ' τ' → HR K H' M' → Q σ' H'
def liftGs (H0 : Hp) (g : DGs) : TGs := fun vs σ H Q => ∃ ds τ M Qd, RpL K H vs ds ∧ RS K H0 H σ τ ∧ HR K H M ∧ g ds τ M Qd ∧ ∀ τ' M' σ' H', Qd τ' M' → TExt K H H' → RS K H0 H' σ' τ' → HR K H' M' → Q σ' H'
end
section
variable {X : Cx} {W : DW} {pos : Pos}
structure PGD (X : Cx) (H0 : Hp) (tg : Expr) (g : DGt) : Prop where
  run : PG X tg (liftG X.K H0 g)
structure PGsD (X : Cx) (H0 : Hp) (tg : List Expr) (g : DGs) : Prop where
  run : PGs X tg (liftGs X.K H0 g)
theorem PGimp {tg : Expr} {t t' : TG} (h : PG X tg t) (i : ∀ v σ H Q, t' v σ H Q → t v σ H Q) : PG X tg t' := ⟨fun pins s σ H v u Q I r q => h.run pins s σ H v u Q I r (i v σ H Q q)⟩
theorem PGsimp {tg : List Expr} {t t' : TGs} (h : PGs X tg t) (i : ∀ v σ H Q, t' v σ H Q → t v σ H Q) : PGs X tg t' := ⟨fun pins s σ H v u Q I r q => h.run pins s σ H v u Q I r (i v σ H Q q)⟩
def dName (i : Nat) : DGt := fun d τ M Q => Q (τ.set i (some d)) M
theorem pgd_name {H0 : Hp} {i : Nat} {tg : Expr} (h : PG X tg (gName i)) : PGD X H0 tg (dName i) := ⟨PGimp h fun v σ H Q ⟨d, τ, M, Qd, r, hs, hr, q, k⟩ => k _ M _ H q .refl (hs.set r) hr⟩
def dGNil : DGs := fun ds τ M Q => match ds with | [] => Q τ M | _ => False
def dGCons (g : DGt) (gs : DGs) : DGs := fun ds τ M Q => match ds with | d :: r => g d τ M (fun τ1 M1 => gs r τ1 M1 Q) | [] => False
theorem pgsd_nil {H0 : Hp} : PGsD X H0 [] dGNil := ⟨PGsimp pgs_nil fun vs σ H Q ⟨ds, τ, M, Qd, r, hs, hr, q, k⟩ => by
  unfold dGNil at q
  split at q
  · exact ⟨r.nil_of, k τ M σ H q .refl hs hr⟩
  · exact q.elim⟩
theorem pgsd_cons {H0 : Hp} {e : Expr} {es : List Expr} {g : DGt} {gs : DGs} (h1 : PGD X H0 e g) (h2 : PGsD X H0 es gs)
    (hs : (assignEach (e :: es) X.env).map (·.2) = assign e X.env :: (assignEach es X.env).map (·.2) := by rfl) : PGsD X H0 (e :: es) (dGCons g gs) := ⟨PGsimp (pgs_cons h1.run h2.run hs) fun vs σ H Q ⟨ds, τ, M, Qd, r, hs, hr, q, k⟩ => by
  unfold dGCons at q
  split at q
  · rename_i d dr
    cases r with
    | cons rv rl =>
      refine ⟨_, _, rfl, d, τ, M, _, rv, hs, hr, q, fun τ1 M1 σ1 H1 q1 e1 hs1 hr1 => ?_⟩
      exact ⟨dr, τ1, M1, Qd, rl.mono e1, hs1, hr1, q1, fun τ2 M2 σ2 H2 q2 e2 => k τ2 M2 σ2 H2 q2 (e1.trans e2)⟩
  · exact q.elim⟩
/-- a tuple or a list taken apart -/
def dGTup (n : Nat) (gs : DGs) : DGt := fun d τ M Q => match d with
  | .tup ds => ds.length = n ∧ gs ds τ M Q
  | .ref a => match seqOf M a with
    | some ds => ds.length = n ∧ gs ds τ M Q
    | none => False
  | _ => False
theorem PGor {tg : Expr} {t t' : TG} (h : PG X tg t) (h' : PG X tg t') : PG X tg (fun v σ H Q => t v σ H Q ∨ t' v σ H Q) := ⟨fun pins s σ H v u Q I r q => q.elim (fun z => h.run pins s σ H v u Q I r z) fun z => h'.run pins s σ H v u Q I r z⟩
theorem pgd_tup {H0 : Hp} {es : List Expr} {k : Nat} {gs : DGs} {n : Nat} (hc : X.calm = true) (h : PGsD X H0 es gs)
    (hn : (assignEach es X.env).length = n := by rfl) (hst : (assignEach es X.env).findIdx? (·.1) = none := by rfl) : PGD X H0 (.Tuple es k pos) (dGTup n gs) :=
  ⟨PGimp (PGor (pg_tup hc h.run hn hst) (pg_lst hc h.run hn hst)) fun v σ H Q ⟨d, τ, M, Qd, r, hs, hr, q, k⟩ => by
    unfold dGTup at q
    split at q
    · obtain ⟨a, vs, rfl, s, l⟩ := r.toTup
      exact .inl ⟨a, vs, rfl, s, by rw [l.length]; exact q.1, _, τ, M, Qd, l, hs, hr, q.2, k⟩
    · split at q
      · rename_i ds e
        obtain ⟨vs, s, l⟩ := seqOf_ok hr e
        exact .inr ⟨_, vs, r.toRef, s, by rw [l.length]; exact q.1, _, τ, M, Qd, l, hs, hr, q.2, k⟩
      · exact q.elim
    · exact q.elim⟩
/-- o[i] = .. of a list -/
def dGSub (to ti : DE) : DGt := fun v τ M Q => to τ M (fun o M1 => ti τ M1 (fun i M2 => match o, i with
  | .ref a, .int k => match M2 a with
    | some (.lst xs) => match ixN xs.length k with
      | some j => Q τ (put M2 a (.lst (xs.set j v)))
      | none => False
    | _ => False
  | _, _ => False) fun _ _ => False) fun _ _ => False
theorem pgd_sub {o i : Expr} {to ti : DE} (ho : PD X W o to) (hi : PD X W i ti)
    (ha : ∀ v, assign (.Subscript o i pos) X.env v = (do
      let ov ← holding [v] (eval o X.env)
      let iv ← holding [v, ov] (eval i X.env)
      standAt pos
      holding [v, ov, iv] (setItem ov iv v)
      release [v, ov, iv] []) := by intro _; rfl) : PGD X W.h0 (.Subscript o i pos) (dGSub to ti) :=
  ⟨PGimp (pg_sub ho.run hi.run set_list ha) fun v σ H Q ⟨d, τ, M, Qd, r, hs, hr, q, k⟩ => ⟨τ, M, _, _, hs, hr, q, fun _ _ z => z.elim, fun od M1 ov H1 q1 e1 r1 h1 =>
    ⟨τ, M1, _, _, hs.mono e1, h1, q1, fun _ _ z => z.elim, fun id M2 iv H2 q2 e2 r2 h2 => by
      dsimp only at q2
      split at q2
      · rename_i a kk
        split at q2
        · rename_i xs ea
          split at q2
          · rename_i j ej
            obtain ⟨vs, hv, l⟩ := h2.lst ea
            have e3 : TExt X.K H2 (upd H2 a (.lst (vs.set j v))) := .upd (noTup_lst hv)
            refine ⟨a, vs, kk, j, (r1.mono e2).toRef, r2.toInt, hv, by rw [l.length]; exact ej, ?_⟩
            exact k τ _ σ _ q2 (e1.trans (e2.trans e3)) (hs.mono (e1.trans (e2.trans e3))) (h2.made (noTup_lst hv) ⟨_, upd_same, ((l.set (r.mono (e1.trans e2)) j)).mono e3⟩)
          · exact q2.elim
        · exact q2.elim
      · exact q2.elim⟩⟩⟩
/-- target = value -/
def dAsg (te : DE) (g : DGt) : DS := fun Dn τ M => te τ M (fun d M1 => g d τ M1 Dn.nx) (exOf Dn τ)
theorem psd_asg {tg e : Expr} {te : DE} {g : DGt} (he : PD X W e te) (hg : PGD X W.h0 tg g) (hs : swapsWithSole [tg] e pos.line X.env = pure false := by rfl) (hw : swappedStores [tg] e X.env = pure none := by rfl)
    (h1 : (assignEach [tg] X.env).map (·.2) = [assign tg X.env] := by rfl) : PSD X W (.Assign [tg] e pos) (dAsg te g) :=
  ⟨PSimp (ps_asg he.run hg.run hs hw h1) fun De σ H ⟨τ, M, Dd, hs, hr, q, we, nc⟩ => ⟨τ, M, _, _, hs, hr, q, fun x M' h => we x τ M' h, fun d M1 v H1 q1 e1 r1 h1 =>
    ⟨d, τ, M1, _, r1, hs.mono e1, h1, q1, fun τ' M' σ' H' q' e' hs' hr' => nc.nx τ' M' σ' H' q' (e1.trans e') hs' hr'⟩⟩⟩
/-- name = value -/
theorem psd_set {i : Nat} {x : Str} {e : Expr} {te : DE} {pos' : Pos} (hN : X.N.Nodup) (hi : X.N[i]? = some x) (hx : Loc X.env.scope x) (he : PD X W e te) (hs : swapsWith e (some (.Name x pos')) pos.line X.env = pure false := by rfl) (hf : X.fn x = true ∨ X.env.scope.names.lookup x = some .local := by first | exact .inl rfl | exact .inr rfl | assumption) :
    PSD X W (.Assign [.Name x pos'] e pos) (dAsg te (dName i)) :=
  ⟨PSimp (ps_set hN hi hx he.run hs hf) fun De σ H ⟨τ, M, Dd, hs, hr, q, we, nc⟩ => ⟨τ, M, _, _, hs, hr, q, fun x M' h => we x τ M' h, fun d M1 v H1 q1 e1 r1 h1 =>
    nc.nx _ M1 _ H1 q1 e1 ((hs.mono e1).set r1) h1⟩⟩
/-- name op= e -/
def dAug (i : Nat) (te : DE) (g : DO) : DS := fun Dn τ M => match slot τ i with
  | some x => te τ M (fun y M1 => g x y M1 (fun z M2 => Dn.nx (τ.set i (some z)) M2)) (exOf Dn τ)
  | none => False
theorem psd_aug {i : Nat} {x : Str} {e : Expr} {te : DE} {op : Operator} {g : DO} {pos' : Pos} (hN : X.N.Nodup) (hi : X.N[i]? = some x) (hx : Loc X.env.scope x) (he : PD X W e te) (ho : OpR X (inplaceOp op) (liftO X.K g)) (hf : X.fn x = true ∨ X.env.scope.names.lookup x = some .local := by first | exact .inl rfl | exact .inr rfl | assumption) :
    PSD X W (.AugAssign (.Name x pos') op e pos) (dAug i te g) :=
  ⟨PSimp (ps_aug hN hi hx he.run (ti := liftO X.K g) ho hf) fun De σ H ⟨τ, M, Dd, hs, hr, q, we, nc⟩ => by
    unfold dAug at q
    split at q
    · rename_i d ed
      obtain ⟨v, ev, rv⟩ := hs.at_ i d (slot_eq ed)
      refine ⟨v, ev, τ, M, _, _, hs, hr, q, fun x M' h => we x τ M' h, fun y M1 u H1 q1 e1 r1 h1 => ?_⟩
      exact ⟨d, y, M1, _, q1, rv.mono e1, r1, h1, fun z M2 w H2 q2 e2 r2 h2 => nc.nx _ M2 _ H2 q2 (e1.trans e2) ((hs.mono (e1.trans e2)).set r2) h2⟩
    · exact q.elim⟩
theorem iop_addI : OpR X (inplaceOp .Add) (liftO X.K (oI0 fun i j => .int (i + j))) := oI0_of iop_add fun _ _ _ => .int _
theorem iop_subI : OpR X (inplaceOp .Sub) (liftO X.K (oI0 fun i j => .int (i - j))) := oI0_of iop_sub fun _ _ _ => .int _
/-- o.f = value -/
def putFD (f : Str) (v : D) : List (Str × D) → List (Str × D)
  | [] => [(f, v)]
  | p :: r => if p.1 = f then (p.1, v) :: r else p :: putFD f v r
theorem FD.put {K : PySem.W.Frag} {H : Hp} {f : Str} {v : V} {d : D} (r : Rp K H v d) : ∀ {vs : List (Str × V)} {fs : List (Str × D)}, FD K H vs fs → FD K H (putF f v vs) (putFD f d fs)
  | [], [], _ => ⟨rfl, r, trivial⟩
  | (p1, p2) :: ps, (q1, q2) :: qs, ⟨e, r', l⟩ => by
    simp only at e
    subst e
    unfold putF putFD
    by_cases c : p1 = f
    · simp only [c, if_true]; exact ⟨rfl, r, l⟩
    · simp only [c, if_false]; exact ⟨rfl, r', FD.put r l⟩
  | [], _ :: _, h => h.elim
  | _ :: _, [], h => h.elim
theorem FD.length {K : PySem.W.Frag} {H : Hp} : ∀ {vs : List (Str × V)} {fs : List (Str × D)}, FD K H vs fs → vs.length = fs.length
  | [], [], _ => rfl
  | _ :: _, _ :: _, ⟨_, _, l⟩ => by simp [FD.length l]
  | [], _ :: _, h => h.elim
  | _ :: _, [], h => h.elim
theorem FD.look_none {K : PySem.W.Frag} {H : Hp} {f : Str} : ∀ {vs : List (Str × V)} {fs : List (Str × D)}, FD K H vs fs → fs.lookup f = none → vs.lookup f = none
  | [], [], _, _ => rfl
  | (p1, p2) :: ps, (q1, q2) :: qs, ⟨e, r', l⟩, h => by
    simp only at e
    subst e
    by_cases c : (f == p1) = true
    · rw [List.lookup_cons, c] at h; cases h
    · have c' : (f == p1) = false := by simpa using c
      rw [List.lookup_cons, c'] at h ⊢
      exact FD.look_none l h
  | [], _ :: _, h, _ => h.elim
  | _ :: _, [], h, _ => h.elim
def dFldS (K : PySem.W.Frag) (to te : DE) (f : Str) : DS := fun Dn τ M => te τ M (fun v M1 => to τ M1 (fun o M2 => match o with
  | .ref a => match M2 a with
    | some (.ins C fs) => FldK K C f ∧ fs.length < 1000 ∧ Dn.nx τ (put M2 a (.ins C (putFD f v fs)))
    | _ => False
  | _ => False) (exOf Dn τ)) (exOf Dn τ)
theorem psd_fld {o e : Expr} {to te : DE} {f : Str} {pos' : Pos} (ho : PD X W o to) (he : PD X W e te) (hs : swapsWith e (some (.Attribute o f pos')) pos.line X.env = pure false := by rfl) : PSD X W (.Assign [.Attribute o f pos'] e pos) (dFldS X.K to te f) :=
  ⟨PSimp (ps_fld ho.run he.run hs) fun De σ H ⟨τ, M, Dd, hs, hr, q, we, nc⟩ => ⟨τ, M, _, _, hs, hr, q, fun x M' h => we x τ M' h, fun d M1 v H1 q1 e1 r1 h1 =>
    ⟨τ, M1, _, _, hs.mono e1, h1, q1, fun x M' h => we x τ M' h, fun od M2 ov H2 q2 e2 r2 h2 => by
      dsimp only at q2
      split at q2
      · rename_i a
        split at q2
        · rename_i C fs ea
          obtain ⟨⟨c, n⟩, hl, q2⟩ := q2
          obtain ⟨dx, vs, hv, fd⟩ := h2.ins ea
          have e3 : TExt X.K H2 (upd H2 a (.ins C dx (putF f v vs))) := .upd (noTup_ins hv)
          refine ⟨a, C, dx, vs, r2.toRef, hv, c, n, by rw [fd.length]; exact hl, ?_⟩
          exact nc.nx τ _ σ _ q2 (e1.trans (e2.trans e3)) (hs.mono (e1.trans (e2.trans e3))) (h2.made (noTup_ins hv) ⟨dx, _, upd_same, (FD.put (r1.mono e2) fd).mono e3⟩)
        · exact q2.elim
      · exact q2.elim⟩⟩⟩
end

/-! ### while -/
section
variable {X : Cx} {W : DW} {pos : Pos}
def dWhN (c : DT) (tb : DS) : Nat → DN → Sl → Mp → Prop
  | 0, _, _, _ => False
  | n + 1, Dn, τ, M => c τ M (fun b M1 => if b = true then tb { Dn with nx := dWhN c tb n Dn, ct := dWhN c tb n Dn, bk := Dn.nx } τ M1 else Dn.nx τ M1) (exOf Dn τ)
def dWhile (c : DT) (tb : DS) : DS := fun Dn τ M => ∃ n, dWhN c tb n Dn τ M
theorem psd_while {c : Expr} {body : List Stmt} {tc : DT} {tb : DS} (hp : PassesOwn (model X.prog X.w) X.A X.env X.xe) (hc : PTD X W c tc) (hb : PSsD X W body tb) : PSD X W (.While c body [] pos) (dWhile tc tb) :=
  ⟨PSimp (ps_while hp hc.run hb.run) fun De σ H ⟨τ, M, Dd, hs, hr, ⟨n, q⟩, we, nc⟩ => by
    refine ⟨fun m σ' H' => ∃ τ' M', TExt X.K H H' ∧ RS X.K W.h0 H' σ' τ' ∧ HR X.K H' M' ∧ dWhN tc tb m Dd τ' M', ⟨n, τ, M, .refl, hs, hr, q⟩, ?_⟩
    rintro m σ1 H1 ⟨τ1, M1, e1, hs1, hr1, q1⟩
    cases m with
    | zero => exact q1.elim
    | succ m =>
      refine ⟨τ1, M1, _, _, hs1, hr1, q1, fun x M' h => we x τ1 M' h, fun b M2 H2 q2 e2 h2 => ?_⟩
      cases b with
      | false => exact nc.nx τ1 M2 σ1 H2 (by simpa using q2) (e1.trans e2) (hs1.mono e2) h2
      | true =>
        simp only [if_true] at q2 ⊢
        refine ⟨fun σ' H' => ∃ τ' M', TExt X.K H H' ∧ RS X.K W.h0 H' σ' τ' ∧ HR X.K H' M' ∧ dWhN tc tb m Dd τ' M', fun σ' H' h => ⟨m, Nat.lt_succ_self m, h⟩, ?_⟩
        exact ⟨τ1, M2, _, hs1.mono e2, h2, q2, we, ⟨fun τ' M' σ' H' h e' hs' hr' => ⟨τ', M', e1.trans (e2.trans e'), hs', hr', h⟩, fun d M' v H' h e' => nc.rt d M' v H' h (e1.trans (e2.trans e')),
          fun τ' M' σ' H' h e' => nc.nx τ' M' σ' H' h (e1.trans (e2.trans e')), fun τ' M' σ' H' h e' hs' hr' => ⟨τ', M', e1.trans (e2.trans e'), hs', hr', h⟩⟩⟩⟩
end

/-! ### what is walked -/
/-- J walks its, as long as kp holds -/
structure ItOk (K : PySem.W.Frag) (H0 : Hp) (J : It) (its : List D) (kp : Mp → Prop) : Prop where
  small : its.length ≤ sizeLine
  go : ∀ i H M, TExt K H0 H → HR K H M → kp M → i < its.length → J.go i H
  stop : ∀ i H M, TExt K H0 H → HR K H M → kp M → its.length ≤ i → J.stop i H
  yld : ∀ i H M x H', TExt K H0 H → HR K H M → kp M → J.yld i H x H' → TExt K H H' ∧ (∀ M', HR K H M' → HR K H' M') ∧ ∀ d, its[i]? = some d → Rp K H' x d
abbrev DI := Sl → Mp → (List D → (Mp → Prop) → Mp → Prop) → EK → Prop
def liftI (K : PySem.W.Frag) (W : DW) (t : DI) : TI := fun σ H R => ∃ τ M Qd Ed, RS K W.h0 H σ τ ∧ HR K H M ∧ t τ M Qd Ed ∧ (∀ x M', Ed x M' → W.w x τ M') ∧ ∀ its kp J M' H', Qd its kp M' → TExt K H H' → HR K H' M' → ItOk K H' J its kp → R J H'
structure PID (X : Cx) (W : DW) (tg iter : Expr) (t : DI) : Prop where
  run : PI X tg iter (liftI X.K W t)
/-- what a value gives when it is walked -/
def itemsOf (d : D) (M : Mp) : Option (List D) := match d with
  | .tup xs => some xs
  | .ref a => seqOf M a
  | .str z => if z.length ≤ sizeLine then some (z.cps.toList.map fun c => .str ⟨#[c]⟩) else none
  | _ => none
def keepOf (d : D) (its : List D) : Mp → Prop := match d with
  | .ref a => fun M => seqOf M a = some its
  | _ => fun _ => True
def dIter (te : DE) : DI := fun τ M Q E => te τ M (fun d M1 => match itemsOf d M1 with
  | some its => Q its (keepOf d its) M1
  | none => False) E
section
variable {X : Cx} {W : DW} {tg : Expr} {pins : List (Addr × Obj)} {s : Shared} {σ : St} {H : Hp} {R : It → Hp → Prop} {E : Value → Shared → Prop}
theorem iter_lst {a : Addr} {xs : List V} (I : Inv X pins σ H s) (hq : SqL X.K H a xs) (q : R (Itl X.K a) H) : wpAny (model X.prog X.w) X.A (pyIter (.ref a)) (PIE X pins σ tg R) E s := by
  obtain ⟨its, rv, pl, hz⟩ := I.list hq
  refine wpAny_pyIter_list pl.isList ⟨s.heap.objs.size, [s.heap.objs.size], _, _, H, rfl, I.kept (t' := s.toks) fun b o e => Heap.get?_push_of_some _ e, turn_list a _, ⟨_, Heap.get?_push_size _ rfl, rfl, rfl⟩, fun b hb => ?_, q⟩
  obtain rfl : b = s.heap.objs.size := by simpa using hb
  exact I.fpOk (Nat.le_refl _) (I.hok.fresh (Nat.le_refl _))
theorem iter_tup {a : Addr} {xs : List V} (I : Inv X pins σ H s) (hq : SqT X.K H a xs) (q : R (Itt X.K a) H) : wpAny (model X.prog X.w) X.A (pyIter (.ref a)) (PIE X pins σ tg R) E s := by
  obtain ⟨its, rv, pl, hz⟩ := I.tuple hq
  refine wpAny_pyIter_tuple (show s.heap.IsTuple a its.toArray from pl) ⟨s.heap.objs.size, [s.heap.objs.size], _, _, H, rfl, I.kept (t' := s.toks) fun b o e => Heap.get?_push_of_some _ e, turn_tuple a _, ⟨_, Heap.get?_push_size _ rfl, rfl, rfl⟩, fun b hb => ?_, q⟩
  obtain rfl : b = s.heap.objs.size := by simpa using hb
  exact I.fpOk (Nat.le_refl _) (I.hok.fresh (Nat.le_refl _))
theorem iter_str {z : Str} {u : Value} (I : Inv X pins σ H s) (hu : RelV (.str z) u) (q : R (Its z) H) : wpAny (model X.prog X.w) X.A (pyIter u) (PIE X pins σ tg R) E s := by
  obtain ⟨t, rfl⟩ := hu
  cases ha : z.cps.all (· < 128) with
  | false => exact wpAny_pyIter_wide ha (pi_one (tk := s.toks) I _ (turn_str _ z t _ (.inr rfl)) ⟨_, Heap.get?_push_size _ rfl, rfl, rfl⟩ q)
  | true => exact wpAny_pyIter_ascii ha (pi_one (tk := s.toks) I _ (turn_str _ z t _ (.inl rfl)) ⟨_, Heap.get?_push_size _ rfl, rfl, rfl⟩ q)
theorem itOk_tup {K : PySem.W.Frag} {H : Hp} {a : Addr} {vs : List V} {ds : List D} (s : SqT K H a vs) (l : RpL K H vs ds) (z : vs.length ≤ sizeLine) : ItOk K H (Itt K a) ds fun _ => True where
  small := by rw [← l.length]; exact z
  go := fun i H1 M e _ _ hi => ⟨vs, vs[i]'(by rw [l.length]; exact hi), e _ _ s, by simp⟩
  stop := fun i H1 M e _ _ hi => ⟨vs, e _ _ s, by rw [l.length]; exact hi⟩
  yld := fun i H1 M x H2 e _ _ y => by
    obtain ⟨rfl, y⟩ := y
    have hx := y vs (e _ _ s)
    refine ⟨.refl, fun _ h => h, fun d hd => ?_⟩
    obtain ⟨v, ev, rv⟩ := (l.mono e).get hd
    rw [hx] at ev
    cases ev
    exact rv
theorem itOk_lst {K : PySem.W.Frag} {H : Hp} {a : Addr} {vs : List V} {ds : List D} (l : RpL K H vs ds) (z : vs.length ≤ sizeLine) : ItOk K H (Itl K a) ds fun M => seqOf M a = some ds where
  small := by rw [← l.length]; exact z
  go := fun i H1 M e hr k hi => by
    obtain ⟨us, s, l'⟩ := seqOf_ok hr k
    exact ⟨us, us[i]'(by rw [l'.length]; exact hi), s, by simp⟩
  stop := fun i H1 M e hr k hi => by
    obtain ⟨us, s, l'⟩ := seqOf_ok hr k
    exact ⟨us, s, by rw [l'.length]; exact hi⟩
  yld := fun i H1 M x H2 e hr k y => by
    obtain ⟨rfl, y⟩ := y
    obtain ⟨us, s, l'⟩ := seqOf_ok hr k
    have hx := y us s
    refine ⟨.refl, fun _ h => h, fun d hd => ?_⟩
    obtain ⟨v, ev, rv⟩ := l'.get hd
    rw [hx] at ev
    cases ev
    exact rv
theorem itOk_str {K : PySem.W.Frag} {H : Hp} {z : Str} (hz : z.length ≤ sizeLine) : ItOk K H (Its z) (z.cps.toList.map fun c => D.str ⟨#[c]⟩) fun _ => True where
  small := by simpa [Str.length] using hz
  go := fun i H1 M e _ _ hi => show i < z.cps.size by simpa using hi
  stop := fun i H1 M e _ _ hi => show z.cps.size ≤ i by simpa using hi
  yld := fun i H1 M x H2 e _ _ y => by
    obtain ⟨rfl, c, hc, rfl⟩ := y
    refine ⟨.refl, fun _ h => h, fun d hd => ?_⟩
    rw [List.getElem?_map, Array.getElem?_toList, hc] at hd
    cases hd
    exact .str _
theorem itOk_rng {K : PySem.W.Frag} {H : Hp} {lo : Int} {n : Nat} (hz : n ≤ sizeLine) : ItOk K H (Itr lo n) ((List.range n).map fun i => D.int (lo + (i : Nat))) fun _ => True where
  small := by simpa using hz
  go := fun i H1 M e _ _ hi => show i < n by simpa using hi
  stop := fun i H1 M e _ _ hi => show n ≤ i by simpa using hi
  yld := fun i H1 M x H2 e _ _ y => by
    obtain ⟨rfl, rfl⟩ := y
    refine ⟨.refl, fun _ h => h, fun d hd => ?_⟩
    by_cases hi : i < n
    · rw [List.getElem?_map, List.getElem?_range hi] at hd
      cases hd
      exact .int _
    · rw [List.getElem?_eq_none (by simpa using hi)] at hd
      cases hd
theorem pid_any {e : Expr} {te : DE} (he : PD X W e te) : PID X W tg e (dIter te) := ⟨⟨fun pins s σ H R I ⟨τ, M, Qd, Ed, hs, hr, q, we, k⟩ => by
  refine thn (he.run.run pins s σ H (fun v H1 => ∃ d M1, Rp X.K H1 v d ∧ HR X.K H1 M1 ∧ TExt X.K H H1 ∧ match itemsOf d M1 with
    | some its => Qd its (keepOf d its) M1
    | none => False) I ⟨τ, M, _, Ed, hs, hr, q, we, fun d M1 v H1 q1 e1 r1 h1 => ⟨d, M1, r1, h1, e1, q1⟩⟩) fun u s1 ⟨v, H1, I1, rv, d, M1, r1, h1, e1, q1⟩ => ?_
  split at q1
  · rename_i its ei
    cases d with
    | tup xs =>
      obtain ⟨a, vs, rfl, sq, l⟩ := r1.toTup
      cases rv
      cases ei
      obtain ⟨_, _, _, z⟩ := I1.tuple sq
      exact iter_tup I1 sq (k _ _ _ M1 H1 q1 e1 h1 (itOk_tup sq l z))
    | ref a =>
      have ea := r1.toRef
      subst ea
      cases rv
      obtain ⟨vs, sq, l⟩ := seqOf_ok h1 ei
      obtain ⟨_, _, _, z⟩ := I1.list sq
      exact iter_lst I1 sq (k _ _ _ M1 H1 q1 e1 h1 (itOk_lst l z))
    | str z =>
      have ea := r1.toStr
      subst ea
      have ei' : (if z.length ≤ sizeLine then some (z.cps.toList.map fun c => D.str ⟨#[c]⟩) else none) = some its := ei
      by_cases c : z.length ≤ sizeLine
      · rw [if_pos c] at ei'
        cases ei'
        exact iter_str I1 rv (k _ _ _ M1 H1 q1 e1 h1 (itOk_str c))
      · rw [if_neg c] at ei'; cases ei'
    | _ => cases ei
  · exact q1.elim⟩⟩
end
end DL

set_option maxHeartbeats 4000000
namespace DL
open PySem L2
section
variable {X : Cx} {W : DW} {tg : Expr} {pos p : Pos} {ta : DA}
/-! ### range -/
def dRng1 (ta : DA) : DI := fun τ M Q E => ta τ M (fun ds M1 => match ds with
  | [.int j] => j ≤ 16777216 ∧ -(2 ^ 62) ≤ j ∧ Q ((List.range j.toNat).map fun i => D.int (i : Nat)) (fun _ => True) M1
  | _ => False) E
def dRng2 (ta : DA) : DI := fun τ M Q E => ta τ M (fun ds M1 => match ds with
  | [.int i, .int j] => (-(2 ^ 62) ≤ i ∧ i < 2 ^ 62 ∧ -(2 ^ 62) ≤ j ∧ j < 2 ^ 62) ∧ j - i ≤ 16777216 ∧ Q ((List.range (j - i).toNat).map fun k => D.int (i + (k : Nat))) (fun _ => True) M1
  | _ => False) E
theorem PIimp {iter : Expr} {t t' : TI} (h : PI X tg iter t) (i : ∀ σ H R, t' σ H R → t σ H R) : PI X tg iter t' := ⟨fun pins s σ H R I q => h.run pins s σ H R I (i σ H R q)⟩
theorem pid_rng1 {a : Expr} (hg : Gl X "range") (hm : X.mg "range" = none) (ha : PAD X W [a] ta) (hs : starEach [a] X.env = [(false, eval a X.env)] := by rfl) : PID X W tg (.Call (.Name "range" p) [a] [] pos) (dRng1 ta) :=
  ⟨PIimp (pi_range1 hg hm ha.run hs) fun σ H R ⟨τ, M, Qd, Ed, hs, hr, q, we, k⟩ => ⟨τ, M, _, Ed, hs, hr, q, we, fun ds M1 vs H1 q1 e1 r1 h1 => by
    split at q1
    · rename_i j
      obtain ⟨v, rfl, rv⟩ := r1.one
      obtain ⟨c1, c2, q1⟩ := q1
      refine ⟨j, by rw [rv.toInt], c2, by omega, k _ _ _ M1 H1 q1 e1 h1 ?_⟩
      have := itOk_rng (K := X.K) (H := H1) (lo := 0) (n := j.toNat) (by rw [sizeLine_eq]; omega)
      simpa using this
    · exact q1.elim⟩⟩
theorem pid_rng2 {a b : Expr} (hg : Gl X "range") (hm : X.mg "range" = none) (ha : PAD X W [a, b] ta) (hs : starEach [a, b] X.env = [(false, eval a X.env), (false, eval b X.env)] := by rfl) (hs2 : starEach [b] X.env = [(false, eval b X.env)] := by rfl) : PID X W tg (.Call (.Name "range" p) [a, b] [] pos) (dRng2 ta) :=
  ⟨PIimp (pi_range2 hg hm ha.run hs hs2) fun σ H R ⟨τ, M, Qd, Ed, hs, hr, q, we, k⟩ => ⟨τ, M, _, Ed, hs, hr, q, we, fun ds M1 vs H1 q1 e1 r1 h1 => by
    split at q1
    · rename_i i j
      obtain ⟨v, v', rfl, rv, rv'⟩ := r1.two
      obtain ⟨c1, c2, q1⟩ := q1
      refine ⟨i, j, by rw [rv.toInt, rv'.toInt], c1, k _ _ _ M1 H1 q1 e1 h1 (itOk_rng (by rw [sizeLine_eq]; omega))⟩
    · exact q1.elim⟩⟩

/-! ### for -/
def dLoop (g : DGt) (tb : DS) (kp : Mp → Prop) : List D → DN → Sl → Mp → Prop
  | [], Dn, τ, M => kp M ∧ Dn.nx τ M
  | d :: ds, Dn, τ, M => kp M ∧ g d τ M fun τ2 M2 => tb { Dn with nx := dLoop g tb kp ds Dn, ct := dLoop g tb kp ds Dn, bk := Dn.nx } τ2 M2
def dFor (ti : DI) (g : DGt) (tb : DS) : DS := fun Dn τ M => ti τ M (fun its kp M1 => dLoop g tb kp its Dn τ M1) (exOf Dn τ)
theorem psd_for {iter : Expr} {body : List Stmt} {ti : DI} {g : DGt} {tb : DS} (hp : PassesOwn (model X.prog X.w) X.A X.env X.xe) (hc : X.calm = true) (hi : PID X W tg iter ti) (hg : PGD X W.h0 tg g) (hb : PSsD X W body tb)
    (hs : ∀ x, foldedSetIterable iter X.env x = pure x := by intro _; rfl) : PSD X W (.For tg iter body [] pos) (dFor ti g tb) :=
  ⟨PSimp (ps_for hp hc hi.run hg.run hb.run hs) fun De σ H ⟨τ, M, Dd, hs, hr, q, we, nc⟩ => ⟨τ, M, _, _, hs, hr, q, fun x M' h => we x τ M' h, fun its kp J M1 H1 q1 e1 h1 ok => by
    refine ⟨fun i m σ' H' => m = its.length - i ∧ i ≤ its.length ∧ TExt X.K H1 H' ∧ ∃ τ' M', RS X.K W.h0 H' σ' τ' ∧ HR X.K H' M' ∧ dLoop g tb kp (its.drop i) Dd τ' M', ⟨_, rfl, Nat.zero_le _, .refl, τ, M1, hs.mono e1, h1, by simpa using q1⟩, ?_⟩
    rintro i m σ2 H2 ⟨rfl, hi, e2, τ2, M2, hs2, hr2, q2⟩
    by_cases hlt : i < its.length
    · rw [List.drop_eq_getElem_cons hlt] at q2
      obtain ⟨hk, q2⟩ := q2
      refine .inr ⟨ok.go i H2 M2 e2 hr2 hk hlt, fun σ' H' => TExt X.K H1 H' ∧ ∃ τ' M', RS X.K W.h0 H' σ' τ' ∧ HR X.K H' M' ∧ dLoop g tb kp (its.drop (i + 1)) Dd τ' M', fun σ' H' h => ⟨its.length - (i + 1), by omega, rfl, hlt, h.1, h.2⟩, fun x H3 y => ?_⟩
      obtain ⟨e3, k3, r3⟩ := ok.yld i H2 M2 x H3 e2 hr2 hk y
      have rx := r3 its[i] (by simp [hlt])
      refine ⟨its[i], τ2, M2, _, rx, hs2.mono e3, k3 _ hr2, q2, fun τ4 M4 σ4 H4 q4 e4 hs4 hr4 => ?_⟩
      exact ⟨τ4, M4, _, hs4, hr4, q4, we, ⟨fun τ' M' σ' H' h e' hs' hr' => ⟨e2.trans (e3.trans (e4.trans e')), τ', M', hs', hr', h⟩, fun d M' v H' h e' => nc.rt d M' v H' h (e1.trans (e2.trans (e3.trans (e4.trans e')))),
        fun τ' M' σ' H' h e' => nc.nx τ' M' σ' H' h (e1.trans (e2.trans (e3.trans (e4.trans e')))), fun τ' M' σ' H' h e' hs' hr' => ⟨e2.trans (e3.trans (e4.trans e')), τ', M', hs', hr', h⟩⟩⟩
    · have ei : i = its.length := by omega
      subst ei
      rw [List.drop_length] at q2
      exact .inl ⟨ok.stop _ H2 M2 e2 hr2 q2.1 (Nat.le_refl _), nc.nx τ2 M2 σ2 H2 q2.2 (e1.trans e2) hs2 hr2⟩⟩⟩

/-! ### comprehensions -/
def wipeD (τ : Sl) : List Nat → Sl
  | [] => τ
  | v :: vs => (wipeD τ vs).set v none
theorem wipeD_length (τ : Sl) : ∀ vs : List Nat, (wipeD τ vs).length = τ.length
  | [] => rfl
  | v :: vs => by unfold wipeD; rw [List.length_set, wipeD_length τ vs]
theorem wipeD_some {τ : Sl} {i : Nat} {x : D} : ∀ {vs : List Nat}, (wipeD τ vs)[i]? = some (some x) → τ[i]? = some (some x) ∧ i ∉ vs
  | [], h => ⟨h, by simp⟩
  | v :: vs, h => by
    unfold wipeD at h
    by_cases hi : v = i
    · subst hi
      by_cases hv : v < (wipeD τ vs).length
      · rw [List.getElem?_set_self hv] at h; cases h
      · rw [List.getElem?_eq_none (by simpa using hv)] at h; cases h
    · rw [List.getElem?_set_ne hi] at h
      obtain ⟨a, b⟩ := wipeD_some h
      exact ⟨a, by simpa using ⟨fun e => hi e.symm, b⟩⟩
theorem wipe_out' {σ : St} {i : Nat} : ∀ {vs : List Nat}, i ∉ vs → (wipe σ vs)[i]? = σ[i]?
  | [], _ => rfl
  | v :: vs, h => by
    have h' : v ≠ i ∧ i ∉ vs := by simpa [eq_comm] using h
    unfold wipe
    rw [List.getElem?_set_ne h'.1, wipe_out' h'.2]
theorem wipe_at {σ : St} {i : Nat} (hi : i < σ.length) : ∀ {vs : List Nat}, i ∈ vs → (wipe σ vs)[i]? = some none
  | v :: vs, h => by
    unfold wipe
    by_cases c : v = i
    · subst c; rw [List.getElem?_set_self (by rw [wipe_length]; exact hi)]
    · rw [List.getElem?_set_ne c]
      rcases List.mem_cons.mp h with h | h
      · exact absurd h.symm c
      · exact wipe_at hi h
theorem wipe_same {σ σ' : St} {vs : List Nat} (hl : σ'.length = σ.length) (h : ∀ i, i ∉ vs → σ'[i]? = σ[i]?) : wipe σ' vs = wipe σ vs := by
  apply List.ext_getElem?
  intro i
  by_cases c : i ∈ vs
  · by_cases hi : i < σ.length
    · rw [wipe_at hi c, wipe_at (by omega) c]
    · rw [List.getElem?_eq_none (by rw [wipe_length]; omega), List.getElem?_eq_none (by rw [wipe_length]; omega)]
  · rw [wipe_out' c, wipe_out' c, h i c]
theorem wipe_set {σ : St} {vs : List Nat} {i : Nat} {x : Option V} (h : i ∈ vs) : wipe ((wipe σ vs).set i x) vs = wipe σ vs := by
  apply wipe_same
  · simp [wipe_length]
  · intro j hj
    have : i ≠ j := fun e => hj (e ▸ h)
    rw [List.getElem?_set_ne this, wipe_out' hj]
theorem RS.wipe {K : PySem.W.Frag} {H0 H : Hp} {σ : St} {τ : Sl} (h : RS K H0 H σ τ) (vs : List Nat) (e : TExt K H1 H) : RS K H1 H (L2.wipe σ vs) (wipeD τ vs) := ⟨e, by rw [wipeD_length, wipe_length]; exact h.len, fun i d q => by
  obtain ⟨a, b⟩ := wipeD_some q
  obtain ⟨v, c, r⟩ := h.at_ i d a
  exact ⟨v, (wipe_out' b).trans c, r⟩⟩
def H0n : Hp := fun _ => none
theorem TExt.none {K : PySem.W.Frag} {H : Hp} : TExt K H0n H := fun a xs h => by
  rcases h with (h | ⟨o, h⟩) | h
  · cases h
  · cases h
  · exact .inr h
/-- within a comprehension nothing is let out -/
def W0 : DW := ⟨H0n, fun _ _ _ => False⟩
def noE : EK := fun _ _ => False
/-- one clause; p is the list that grows -/
def dCL (g : D → Sl → Sl) (tt : DT) (te : DE) (kp : Mp → Prop) (p : Addr) (τ : Sl) (F : Mp → Prop) : List D → Mp → Prop
  | [], M => kp M ∧ F M
  | d :: ds, M => kp M ∧ tt (g d τ) M (fun b M1 => if b = true then te (g d τ) M1 (fun y M2 => match M2 p with
      | some (.lst acc) => acc.length < sizeLine ∧ dCL g tt te kp p τ F ds (put M2 p (.lst (acc ++ [y])))
      | _ => False) noE else dCL g tt te kp p τ F ds M1) noE
def dLc (ti : DI) (g : D → Sl → Sl) (tt : DT) (te : DE) (vs : List Nat) : DE := fun τ M Q E => ti τ M (fun its kp M1 => ∀ p, M1 p = none → dCL g tt te kp p (wipeD τ vs) (fun M2 => Q (.ref p) M2) its (put M1 p (.lst []))) E
structure PTsD (X : Cx) (W : DW) (ifs : List Expr) (t : DT) : Prop where
  run : PTs X ifs (liftT X.K W t)
def dYes : DT := fun _ M Q _ => Q true M
theorem PTsimp {ifs : List Expr} {t t' : TT} (h : PTs X ifs t) (i : ∀ σ H Q, t' σ H Q → t σ H Q) : PTs X ifs t' := ⟨fun pins s σ H Q I q => h.run pins s σ H Q I (i σ H Q q)⟩
theorem ptsd_nil : PTsD X W [] dYes := ⟨PTsimp pts_nil fun σ H Q ⟨τ, M, Qd, Ed, hs, hr, q, we, k⟩ => k true M H q .refl hr⟩
theorem ptsd_one {c : Expr} {t : DT} (h : PTD X W c t) : PTsD X W [c] t := ⟨pts_one h.run⟩
/-- the core, for a target that is one name -/
theorem lc_read {ti : DI} {tt : DT} {te : DE} {i : Nat} {vs : List Nat} {K : PySem.W.Frag} (hi : i ∈ vs) {σ : St} {H : Hp} {Q : VK} (h : liftE K W (dLc ti (fun d τ => τ.set i (some d)) tt te vs) σ H Q) :
    tLc (liftI K W ti) (gName i) (liftT K W0 tt) (liftE K W0 te) vs σ H Q := by
  obtain ⟨τ, M, Qd, Ed, hs, hr, q, we, k⟩ := h
  refine ⟨τ, M, _, Ed, hs, hr, q, we, fun its kp J M1 H1 q1 e1 h1 ok D hD => ?_⟩
  have q2 := q1 D (h1.free hD)
  have e2 : TExt K H1 (upd H1 D (.lst [])) := .new hD
  refine ⟨fun i m H' => m = its.length - i ∧ i ≤ its.length ∧ TExt K (upd H1 D (.lst [])) H' ∧ ∃ M', HR K H' M' ∧ dCL (fun d τ => τ.set _ (some d)) tt te kp D (wipeD τ vs) (fun M2 => Qd (.ref D) M2) (its.drop i) M', ⟨_, rfl, Nat.zero_le _, .refl, _, h1.made (o := .lst []) (noTup_none hD) ⟨[], upd_same, .nil⟩, by simpa using q2⟩, ?_⟩
  rintro j m H2 ⟨rfl, hj, e3, M2, hr2, q3⟩
  by_cases hlt : j < its.length
  · rw [List.drop_eq_getElem_cons hlt] at q3
    obtain ⟨hk, q3⟩ := q3
    refine .inr ⟨ok.go j H2 M2 (e2.trans e3) hr2 hk hlt, fun H' => TExt K (upd H1 D (.lst [])) H' ∧ ∃ M', HR K H' M' ∧ dCL (fun d τ => τ.set _ (some d)) tt te kp D (wipeD τ vs) (fun M2 => Qd (.ref D) M2) (its.drop (j + 1)) M', fun H' h => ⟨its.length - (j + 1), by omega, rfl, hlt, h.1, h.2⟩, fun x H3 y => ?_⟩
    obtain ⟨e4, k4, r4⟩ := ok.yld j H2 M2 x H3 (e2.trans e3) hr2 hk y
    have rx := r4 its[j] (by simp [hlt])
    have hs3 : RS K W0.h0 H3 ((wipe σ vs).set i (some x)) ((wipeD τ vs).set i (some its[j])) := ((hs.mono (e1.trans (e2.trans (e3.trans e4)))).wipe vs .none).set rx
    refine ⟨wipe_set hi, _, M2, _, _, hs3, k4 _ hr2, q3, fun _ _ z => z.elim, fun b M4 H4 q4 e5 h4 => ?_⟩
    cases b with
    | false => exact ⟨e3.trans (e4.trans e5), M4, h4, by simpa using q4⟩
    | true =>
      simp only [if_true] at q4 ⊢
      refine ⟨_, M4, _, _, hs3.mono e5, h4, q4, fun _ _ z => z.elim, fun y M5 v H5 q5 e6 r5 h5 => ?_⟩
      dsimp only at q5
      split at q5
      · rename_i acc ea
        obtain ⟨us, hu, l⟩ := h5.lst ea
        have e7 : TExt K H5 (upd H5 D (.lst (us ++ [v]))) := .upd (noTup_lst hu)
        refine ⟨us, hu, by rw [l.length]; exact q5.1, e3.trans (e4.trans (e5.trans (e6.trans e7))), _, h5.made (o := .lst (acc ++ [y])) (noTup_lst hu) ⟨_, upd_same, (l.append (.cons r5 .nil)).mono e7⟩, q5.2⟩
      · exact q5.elim
  · have ei : j = its.length := by omega
    subst ei
    rw [List.drop_length] at q3
    exact .inl ⟨ok.stop _ H2 M2 (e2.trans e3) hr2 q3.1 (Nat.le_refl _), k _ M2 _ H2 q3.2 (e1.trans (e2.trans e3)) (.ref D) hr2⟩
section
variable {elt iter : Expr} {ifs : List Expr} {scope : Scope} {own : List (Str × Nat)} {ti : DI} {tt : DT} {te : DE} {i : Nat}
theorem pd_lc (hc : X.calm = true) (hN : X.N.Nodup) (hi : PID X W tg iter ti) (ok : BlkOk X.N X.env.scope scope own) (hv : i ∈ own.map (·.2))
    (hg : ∀ (s : Shared) (H : Hp) (C : Addr) (cl : List (Str × Addr)) (fp : List Addr), PG (X.blk s H scope (compEnvC scope cl C X.env) fp) tg (gName i))
    (ht : ∀ (s : Shared) (H : Hp) (C : Addr) (cl : List (Str × Addr)) (fp : List Addr), PTsD (X.blk s H scope (compEnvC scope cl C X.env) fp) W0 ifs tt)
    (he : ∀ (s : Shared) (H : Hp) (C : Addr) (cl : List (Str × Addr)) (fp : List Addr), PD (X.blk s H scope (compEnvC scope cl C X.env) fp) W0 elt te) (hs : ∀ x, foldedSetIterable iter X.env x = pure x := by intro _; rfl) :
    PD X W (.ListComp elt [⟨tg, iter, ifs, 0⟩] scope pos) (dLc ti (fun d τ => τ.set i (some d)) tt te (own.map (·.2))) :=
  ⟨PEimp (pe_lc hc hN hi.run ok hg (fun s H C cl fp => (ht s H C cl fp).run) (fun s H C cl fp => (he s H C cl fp).run) hs) fun σ H Q h => lc_read hv h⟩
/-- name = [..] on one line -/
theorem psd_setLc {j : Nat} {y : Str} {py spos : Pos} (hc : X.calm = true) (hN : X.N.Nodup) (hy : X.N[j]? = some y) (hyl : X.env.scope.names.lookup y = some .local)
    (hsw : swapsWith (.ListComp elt [⟨tg, iter, ifs, 0⟩] scope pos) (some (.Name y py)) spos.line X.env = pure true) (hi : PID X W tg iter ti) (ok : BlkOk X.N X.env.scope scope own) (hv : i ∈ own.map (·.2))
    (hg : ∀ (s : Shared) (H : Hp) (C : Addr) (cl : List (Str × Addr)) (fp : List Addr), PG (X.blk s H scope (compEnvC scope cl C X.env) fp) tg (gName i))
    (ht : ∀ (s : Shared) (H : Hp) (C : Addr) (cl : List (Str × Addr)) (fp : List Addr), PTsD (X.blk s H scope (compEnvC scope cl C X.env) fp) W0 ifs tt)
    (he : ∀ (s : Shared) (H : Hp) (C : Addr) (cl : List (Str × Addr)) (fp : List Addr), PD (X.blk s H scope (compEnvC scope cl C X.env) fp) W0 elt te) (hs : ∀ x, foldedSetIterable iter X.env x = pure x := by intro _; rfl) :
    PSD X W (.Assign [.Name y py] (.ListComp elt [⟨tg, iter, ifs, 0⟩] scope pos) spos) (dAsg (dLc ti (fun d τ => τ.set i (some d)) tt te (own.map (·.2))) (dName j)) :=
  ⟨PSimp (ps_setLc hc hN hy hyl hsw hi.run ok hg (fun s H C cl fp => (ht s H C cl fp).run) (fun s H C cl fp => (he s H C cl fp).run) hs) fun De σ H ⟨τ, M, Dd, hs, hr, q, we, nc⟩ =>
    lc_read hv ⟨τ, M, _, _, hs, hr, q, fun x M' h => we x τ M' h, fun d M1 v H1 q1 e1 r1 h1 => nc.nx _ M1 _ H1 q1 e1 ((hs.mono e1).set r1) h1⟩⟩
end
end

/-! ### defs -/
/-- a promise over plain data -/
abbrev DSp := List D → Mp → DK → EK → Prop
def XC (K : PySem.W.Frag) (H : Hp) (Ed : EK) (E : XK) : Prop := ∀ x M' cls d H', Ed x M' → TExt K H H' → XR K H' cls d x → HR K H' M' → E cls d H'
def liftSp (K : PySem.W.Frag) (sp : DSp) : Sp := fun vs H Q E => ∃ ds M Qd Ed, sp ds M Qd Ed ∧ RpL K H vs ds ∧ HR K H M ∧ KC K H Qd Q ∧ XC K H Ed E
/-- the def that the module's name x holds -/
structure FnD (P : Program) (w : World) (K : PySem.W.Frag) (mg : Str → Option Value) (base : Heap) (k : Nat) (x : Str) (ps : List Str) (dds : List D) (sp : DSp) : Prop where
  ex : ∃ (f : Addr) (fd : FuncData) (dvs : List V) (ds : List Value), FnOk P w K mg base (L2.CX P w) k f fd ps (liftSp K sp) ∧ mg x = some (.ref f) ∧ PySem.W.keepIn K (.ref f) = true ∧ Binds K fd ps ds ∧ Vals dvs ds ∧ ∀ H, RpL K H dvs dds
theorem FnD.mono {P : Program} {w : World} {K : PySem.W.Frag} {mg : Str → Option Value} {base : Heap} {j k : Nat} {x : Str} {ps : List Str} {dds : List D} {sp : DSp} (F : FnD P w K mg base j x ps dds sp) (h : j ≤ k) : FnD P w K mg base k x ps dds sp := by
  obtain ⟨f, fd, dvs, ds, F, r⟩ := F.ex
  exact ⟨f, fd, dvs, ds, F.mono h, r⟩
theorem FnD.imp {P : Program} {w : World} {K : PySem.W.Frag} {mg : Str → Option Value} {base : Heap} {k : Nat} {x : Str} {ps : List Str} {dds : List D} {sp sp' : DSp} (F : FnD P w K mg base k x ps dds sp) (h : ∀ ds M Q E, sp' ds M Q E → sp ds M Q E) : FnD P w K mg base k x ps dds sp' := by
  obtain ⟨f, fd, dvs, ds, F, r⟩ := F.ex
  exact ⟨f, fd, dvs, ds, F.imp fun vs H Q E ⟨ds, M, Qd, Ed, q, r⟩ => ⟨ds, M, Qd, Ed, h _ _ _ _ q, r⟩, r⟩
def dCall (sp : DSp) (dds : List D) (t : DA) : DE := fun τ M Q E => t τ M (fun ds M1 => sp (ds ++ dds) M1 Q E) E
section
variable {X : Cx} {W : DW} {k : Nat} {x : Str} {ps : List Str} {dds : List D} {sp : DSp} {p pos apos : Pos} {e o : Expr} {es : List Expr} {t : DA} {to : DE}
theorem spIn {dvs : List V} {H1 : Hp} {σ : St} {τ : Sl} {M1 : Mp} {Qd : DK} {Ed : EK} {Q : VK} {vs : List V} {ds : List D} (hs : RS X.K W.h0 H1 σ τ) (q : sp ds M1 Qd Ed) (r : RpL X.K H1 vs ds) (hr : HR X.K H1 M1) (we : ∀ x M', Ed x M' → W.w x τ M') (k : KC X.K H1 Qd Q) :
    liftSp X.K sp vs H1 Q (WE (liftW X.K W) σ) :=
  ⟨ds, M1, Qd, Ed, q, r, hr, k, fun x M' cls d H' h e xr hr' => ⟨x, τ, M', hs.mono e, hr', xr, we x M' h⟩⟩
theorem pd_call (F : FnD X.prog X.w X.K X.mg X.base k x ps dds sp) (hr : Room k X.A) (tk : Takes X (liftW X.K W)) (hg : Gl X x) (ha : PAD X W (e :: es) t)
    (hdb : (x == ("__debug__" : Str)) = false := by decide) (he : starEach (e :: es) X.env = (false, eval e X.env) :: starEach es X.env := by rfl) (hpl : (backTo pos (starEach es X.env)).any (·.1) = false := by rfl) :
    PD X W (.Call (.Name x p) (e :: es) [] pos) (dCall sp dds t) := by
  obtain ⟨f, fd, dvs, ds0, F, hm, hk, hb, hd, hdd⟩ := F.ex
  exact ⟨PEimp (pe_callSD F hr hg hm hk hb hd (fun σ => passAt tk σ) ha.run hdb he hpl) fun σ H Q ⟨τ, M, Qd, Ed, hs, hr, q, we, k⟩ => ⟨τ, M, _, Ed, hs, hr, q, we, fun ds M1 vs H1 q1 e1 r1 h1 =>
    spIn (dvs := dvs) (hs.mono e1) q1 (r1.append (hdd H1)) h1 we (k.mono e1)⟩⟩
theorem pd_call0 (F : FnD X.prog X.w X.K X.mg X.base k x ps dds sp) (hr : Room k X.A) (tk : Takes X (liftW X.K W)) (hg : Gl X x) (hdb : (x == ("__debug__" : Str)) = false := by decide) : PD X W (.Call (.Name x p) [] [] pos) (dCall sp dds dNil) := by
  obtain ⟨f, fd, dvs, ds0, F, hm, hk, hb, hd, hdd⟩ := F.ex
  refine ⟨⟨fun pins s σ H Q I ⟨τ, M, Qd, Ed, hs, hr', q, we, k⟩ => ?_⟩⟩
  refine wpAny_Call_Name_kw (ld_glob I hg hm ?_ hdb)
  exact PySem.W.callWith_K0 I.kIn hk (run_fnSD (us := []) (vs := []) (E := WE (liftW X.K W)) F hr hb hd (passAt tk σ) I .nil (spIn (dvs := dvs) hs q (by simpa using hdd H) hr' we k))
end
end DL

set_option maxHeartbeats 4000000
namespace DL
open PySem L2
open PyProof.Rows (envOfC Subscript_)

/-! ### a def keeps its promise -/
def dstart (N : List Str) (ds : List D) : Sl := ds.map some ++ List.replicate (N.length - ds.length) none
/-- at a def's end what is no more asked is dropped -/
def dropQ (Q : DK) : DK := fun d M => ∃ M0, Sub M0 M ∧ Q d M0
def dropE (E : EK) : EK := fun x M => ∃ M0, Sub M0 M ∧ E x M0
theorem dropQ_of {Q : DK} {d : D} {M M' : Mp} (h : Q d M) (s : Sub M M') : dropQ Q d M' := ⟨M, s, h⟩
theorem dropE_of {E : EK} {d : DX} {M M' : Mp} (h : E d M) (s : Sub M M') : dropE E d M' := ⟨M, s, h⟩
/-- what a body is to reach -/
def ends (Q : DK) (E : EK) : DN := { nx := fun _ M => dropQ Q .non M, rt := dropQ Q, ex := fun x _ M => dropE E x M }
/-- what a def may let out: some promise's -/
def defW (K : PySem.W.Frag) (H : Hp) (E : XK) : DW := ⟨H, fun x _ M => ∀ H' cls d, TExt K H H' → XR K H' cls d x → HR K H' M → E cls d H'⟩
theorem rs_start {K : PySem.W.Frag} {H : Hp} {N : List Str} {vs : List V} {ds : List D} (r : RpL K H vs ds) : RS K H H (L2.start N vs) (dstart N ds) := ⟨.refl, by simp [L2.start, dstart, r.length], fun i d q => by
  unfold dstart at q
  unfold L2.start
  by_cases hi : i < ds.length
  · rw [List.getElem?_append_left (by simpa using hi), List.getElem?_map] at q
    rw [List.getElem?_append_left (by simpa [r.length] using hi), List.getElem?_map]
    cases e : ds[i]? with
    | none => rw [e] at q; cases q
    | some d' =>
      rw [e] at q
      cases q
      obtain ⟨v, ev, rv⟩ := r.get e
      exact ⟨v, by rw [ev]; rfl, rv⟩
  · rw [List.getElem?_append_right (by simpa using hi)] at q
    have : ∀ (n j : Nat), (List.replicate n (none : Option D))[j]? ≠ some (some d) := fun n j h => by
      have := List.mem_of_getElem? h
      simp at this
    exact absurd q (this _ _)⟩
section
variable {P : Program} {w : World} {K : PySem.W.Frag} {mg : Str → Option Value} {base : Heap}
/-- THE RULE for a def: its body as a term of rules, and that term's reading for every plain datum -/
theorem okD {x qual : Str} {st : Stmt} {f : Addr} {fd : FuncData} {N ps : List Str} {k : Nat} {sp : DSp} (F : L2.Fun K x qual st f fd) (S : FnScope N ps (defScope st)) (len : ∀ ds M Q E, sp ds M Q E → ds.length = ps.length)
    (hbody : ∀ (cdv : Value) (A : Around) (outer : List Env) (s : Shared) (H : Hp) (E : XK), Room k (A.deeper (envOfC qual (defScope st) s.heap.objs.size f cdv)) →
      Takes (cxOf (L2.CX P w) P w K mg base N qual (defScope st) f cdv A outer s H E) (liftW K (defW K H E)) →
      ∃ t, PSsD (cxOf (L2.CX P w) P w K mg base N qual (defScope st) f cdv A outer s H E) (defW K H E) (defBody st) t ∧ ∀ ds M Q E', sp ds M Q E' → t (ends Q E') (dstart N ds) M) :
    FnOk P w K mg base (L2.CX P w) (k + 1) f fd ps (liftSp K sp) := by
  refine F.okX S (fun vs H Q E ⟨ds, M, Qd, Ed, hsp, r, _⟩ => r.length.trans (len ds M Qd Ed hsp)) fun cdv A outer s H vs Q E hr ⟨ds, M, Qd, Ed, hsp, r, hr', kc, xc⟩ => ?_
  obtain ⟨t, ht, q⟩ := hbody cdv A outer s H E hr (Takes.imp (takes_of rfl rfl rfl rfl) fun c d σ H' ⟨x, τ, M', rs, h2, xr, hw⟩ => hw H' c d rs.ext xr h2)
  refine ⟨_, ht.run, dstart N ds, M, ends Qd Ed, rs_start r, hr', q ds M Qd Ed hsp, fun x τ M' ⟨M0, sb, h⟩ H' cls d e xr h2 => xc x M0 cls d H' h e xr (h2.sub sb), ?_⟩
  exact ⟨fun τ M' σ H' ⟨M0, sb, h⟩ e _ h2 => kc _ M0 _ H' h e .non (h2.sub sb), fun d M' v H' ⟨M0, sb, h⟩ e rv h2 => kc d M0 v H' h e rv (h2.sub sb), fun _ _ _ _ z => z.elim, fun _ _ _ _ z => z.elim⟩
theorem fnd_mk {x qual : Str} {st : Stmt} {f : Addr} {fd : FuncData} {ps : List Str} {k : Nat} {sp : DSp} (F : L2.Fun K x qual st f fd) (m : mg x = some (.ref f)) (b : Binds K fd ps []) (h : FnOk P w K mg base (L2.CX P w) k f fd ps (liftSp K sp)) : FnD P w K mg base k x ps [] sp :=
  ⟨f, fd, [], [], h, m, F.kp, b, .nil, fun _ => .nil⟩
/-- the method m of the class at C -/
structure MetD (P : Program) (w : World) (K : PySem.W.Frag) (mg : Str → Option Value) (base : Heap) (k : Nat) (C : Addr) (m : Str) (ps : List Str) (dds : List D) (sp : DSp) : Prop where
  ex : ∃ (f : Addr) (fd : FuncData) (dvs : List V) (ds : List Value), Cls K C ∧ Meth K C m f ∧ FnOk P w K mg base (L2.CX P w) k f fd ps (liftSp K sp) ∧ Binds K fd ps ds ∧ Vals dvs ds ∧ ∀ H, RpL K H dvs dds
/-- the class x at C, made -/
structure MakD (P : Program) (w : World) (K : PySem.W.Frag) (mg : Str → Option Value) (base : Heap) (k : Nat) (x : Str) (C : Addr) (ps : List Str) (dds : List D) (sp : DSp) : Prop where
  ex : ∃ (f : Addr) (fd : FuncData) (dvs : List V) (ds : List Value), Mk K C f ∧ mg x = some (.ref C) ∧ FnOk P w K mg base (L2.CX P w) k f fd ps (liftSp K sp) ∧ Binds K fd ps ds ∧ Vals dvs ds ∧ ∀ H, RpL K H dvs dds
end
def dMeth (C : Addr) (m : Str) (sp : DSp) (dds : List D) (to : DE) (t : DA) : DE := fun τ M Q E => to τ M (fun o M1 => match o with
  | .ref a => match M1 a with
    | some (.ins C' fs) => C' = C ∧ fs.lookup m = none ∧ t τ M1 (fun ds M2 => sp (.ref a :: (ds ++ dds)) M2 Q E) E
    | _ => False
  | _ => False) E
def dMake (C : Addr) (sp : DSp) (dds : List D) (t : DA) : DE := fun τ M Q E => t τ M (fun ds M1 => ∀ x, M1 x = none → sp (.ref x :: (ds ++ dds)) (put M1 x (.ins C [])) (fun d M2 => d = .non ∧ Q (.ref x) M2) E) E
/-- o[i] by an own __getitem__ -/
def dIxO (C : Addr) (sp : DSp) (to ti : DE) : DE := fun τ M Q E => to τ M (fun o M1 => ti τ M1 (fun i M2 => match o with
  | .ref a => match M2 a with
    | some (.ins C' _) => C' = C ∧ sp [.ref a, i] M2 Q E
    | _ => False
  | _ => False) E) E
section
variable {X : Cx} {W : DW} {k : Nat} {C : Addr} {x m : Str} {ps : List Str} {dds : List D} {sp : DSp} {p pos apos : Pos} {e o : Expr} {es : List Expr} {t : DA} {to ti : DE}
theorem methS {f : Addr} {fd : FuncData} {dvs : List V} {ds0 : List Value} {pl : Sem Bool} {args : List Expr} {ta : TA} {E : St → XK} {to' : TE} {sp' : Sp} (hT : PE X o to') (cl : Cls X.K C) (hm : Meth X.K C m f) (F : FnOk X.prog X.w X.K X.mg X.base (L2.CX X.prog X.w) k f fd ps sp') (hr : Room k X.A)
    (hb : Binds X.K fd ps ds0) (hd : Vals dvs ds0) (hx : ∀ σ, PassesAt (L2.CX X.prog X.w) X σ (E σ))
    (run : ∀ {pins : List (Addr × Obj)} {s : Shared} {σ : St} {H : Hp} {a : Addr} {Q : VK}, Inv X pins σ H s → ta σ H (fun vs H2 => sp' (.ref a :: (vs ++ dvs)) H2 Q (E σ)) →
      wpAny (model X.prog X.w) X.A (callWith pos (.ref f) [.ref a] (backTo pos (starEach args X.env)) (backToKw pos (keywordEach [] X.env))) (EP X pins σ Q) X.xe s)
    (ht : eval (.Call (.Attribute o m apos) args [] pos) X.env = (do
      let ov ← eval o X.env
      standAt apos.atName
      let (f, first) ← holding [ov] (getMethod ov m pl)
      callWith pos f first (backTo pos (starEach args X.env)) (backToKw pos (keywordEach [] X.env)))) :
    PE X (.Call (.Attribute o m apos) args [] pos) (fun σ H Q => to' σ H fun v H1 => ∃ a dx fs, v = .ref a ∧ H1 a = some (.ins C dx fs) ∧ fs.lookup m = none ∧ ta σ H1 fun vs H2 => sp' (.ref a :: (vs ++ dvs)) H2 Q (E σ)) :=
  ⟨fun pins s σ H Q I h => PySem.W.methodCall_KW (pl := pl) (thn (hT.run pins s σ H _ I h) fun u s1 ⟨v, H1, I1, rv, a, dx, fs, ev, ea, l, q⟩ => by
    subst ev
    cases (show u = Value.ref a from rv)
    exact getmeth_ok I1 ea cl hm l (run I1 q)) ht⟩
theorem pd_meth {pl : Sem Bool} (F : MetD X.prog X.w X.K X.mg X.base k C m ps dds sp) (hr : Room k X.A) (tk : Takes X (liftW X.K W)) (ho : PD X W o to) (ha : PAD X W (e :: es) t)
    (hst : starEach (e :: es) X.env = (false, eval e X.env) :: starEach es X.env := by rfl) (hpl : (backTo pos (starEach es X.env)).any (·.1) = false := by rfl)
    (ht : eval (.Call (.Attribute o m apos) (e :: es) [] pos) X.env = (do
      let ov ← eval o X.env
      standAt apos.atName
      let (f, first) ← holding [ov] (getMethod ov m pl)
      callWith pos f first (backTo pos (starEach (e :: es) X.env)) (backToKw pos (keywordEach [] X.env))) := by rfl) : PD X W (.Call (.Attribute o m apos) (e :: es) [] pos) (dMeth C m sp dds to t) := by
  obtain ⟨f, fd, dvs, ds0, cl, hm, F, hb, hd, hdd⟩ := F.ex
  refine ⟨PEimp (methS (E := WE (liftW X.K W)) (ta := liftA X.K W t) ho.run cl hm F hr hb hd (fun σ => passAt tk σ) (fun {pins s σ H a Q} I h => ?_) ht) fun σ H Q ⟨τ, M, Qd, Ed, hs, hr, q, we, k⟩ => ⟨τ, M, _, Ed, hs, hr, q, we, fun d M1 v H1 q1 e1 r1 h1 => ?_⟩⟩
  · refine PySem.W.callWith_K (first := [.ref a]) (h₀ := X.base) I.ok.mod.kin hm.kp (thn (ha.run.run pos pins s σ H _ I h) fun us s2 ⟨vs, H2, I2, r, q2⟩ => ⟨I2.kIn, ?_⟩) hst hpl
    exact run_fnSD (us := .ref a :: us) (vs := .ref a :: vs) F hr hb hd (passAt tk σ) I2 (.cons rfl r) q2
  · dsimp only at q1
    split at q1
    · rename_i a
      split at q1
      · rename_i C' fs ea
        obtain ⟨rfl, hl, q1⟩ := q1
        obtain ⟨dx, vs, hv, fdd⟩ := h1.ins ea
        refine ⟨a, dx, vs, r1.toRef, hv, fdd.look_none hl, τ, M1, _, Ed, hs.mono e1, h1, q1, we, fun ds M2 us H2 q2 e2 r2 h2 => ?_⟩
        exact spIn (dvs := dvs) (hs.mono (e1.trans e2)) q2 (.cons (.ref a) (r2.append (hdd H2))) h2 we (k.mono (e1.trans e2))
      · exact q1.elim
    · exact q1.elim
theorem pd_meth0 {pl : Sem Bool} (F : MetD X.prog X.w X.K X.mg X.base k C m ps dds sp) (hr : Room k X.A) (tk : Takes X (liftW X.K W)) (ho : PD X W o to)
    (ht : eval (.Call (.Attribute o m apos) [] [] pos) X.env = (do
      let ov ← eval o X.env
      standAt apos.atName
      let (f, first) ← holding [ov] (getMethod ov m pl)
      callWith pos f first (backTo pos (starEach [] X.env)) (backToKw pos (keywordEach [] X.env))) := by rfl) : PD X W (.Call (.Attribute o m apos) [] [] pos) (dMeth C m sp dds to dNil) := by
  obtain ⟨f, fd, dvs, ds0, cl, hm, F, hb, hd, hdd⟩ := F.ex
  refine ⟨PEimp (methS (E := WE (liftW X.K W)) (ta := tNil) ho.run cl hm F hr hb hd (fun σ => passAt tk σ) (fun {pins s σ H a Q} I h => ?_) ht) fun σ H Q ⟨τ, M, Qd, Ed, hs, hr, q, we, k⟩ => ⟨τ, M, _, Ed, hs, hr, q, we, fun d M1 v H1 q1 e1 r1 h1 => ?_⟩⟩
  · exact PySem.W.callWith_K0 (first := [.ref a]) I.kIn hm.kp (run_fnSD (us := [.ref a]) (vs := [.ref a]) F hr hb hd (passAt tk σ) I (.cons rfl .nil) h)
  · dsimp only at q1
    split at q1
    · rename_i a
      split at q1
      · rename_i C' fs ea
        obtain ⟨rfl, hl, q1⟩ := q1
        obtain ⟨dx, vs, hv, fdd⟩ := h1.ins ea
        exact ⟨a, dx, vs, r1.toRef, hv, fdd.look_none hl, spIn (dvs := dvs) (hs.mono e1) q1 (.cons (.ref a) (by simpa using hdd H1)) h1 we (k.mono e1)⟩
      · exact q1.elim
    · exact q1.elim
/-- a new instance and its __init__, what is raised wished for at the slots -/
theorem makeS {f : Addr} {fd : FuncData} {dvs : List V} {ds0 : List Value} {pins : List (Addr × Obj)} {σ : St} {H : Hp} {s : Shared} {Q : VK} {us : List Value} {vs : List V} {E : XK} {sp' : Sp} (M : Mk X.K C f) (F : FnOk X.prog X.w X.K X.mg X.base (L2.CX X.prog X.w) k f fd ps sp') (hr : Room (k + 1) X.A)
    (hb : Binds X.K fd ps ds0) (hd : Vals dvs ds0) (hx : PassesAt (L2.CX X.prog X.w) X σ E) (I : Inv X pins σ H s) (r : Vals vs us)
    (h : ∀ x dx, H x = none → H dx = none → dx ≠ x → sp' (.ref x :: (vs ++ dvs)) (upd (upd H dx (.own x)) x (.ins C dx [])) (fun v H2 => v = .non ∧ Q (.ref x) H2) E) :
    wpAny (model X.prog X.w) X.A (call (.ref C) us) (EP X pins σ Q) X.xe s := by
  have n0 : s.heap.objs.size ≠ s.heap.objs.size + 1 := by omega
  have hq := h (s.heap.objs.size + 1) s.heap.objs.size (I.hok.fresh (by omega)) (I.hok.fresh (Nat.le_refl _)) n0
  have J := Inv.made (C := C) I
  have r2 : Vals (V.ref (s.heap.objs.size + 1) :: (vs ++ dvs)) (Value.ref (s.heap.objs.size + 1) :: (us ++ ds0)) := .cons rfl (r.append hd)
  have hl : (Value.ref (s.heap.objs.size + 1) :: us ++ ds0).length = ps.length := (F.len _ _ _ _ hq ▸ r2.length).symm
  refine wpAny_call (make_map (f := f) I.kIn M.makes M.init (beq_iff_eq.mp M.fn) (codeAny_mono (F.run _ X.stack _ _ ⟨Value.ref (s.heap.objs.size + 1) :: us, []⟩ _ _ _ E (hr.make C us []) (J.env0.make C us [])
    (hb _ (Value.ref (s.heap.objs.size + 1) :: us) J.kIn hl) r2 hq) fun res s' hq' => ?_))
  cases res with
  | error e => exact hx pins _ _ e s' J hq'
  | ok fl =>
    cases fl with
    | ret u =>
      obtain ⟨v, H', J2, rv, ev, q3⟩ := J.after hq'
      subst ev
      exact ⟨rv, ⟨V.ref (s.heap.objs.size + 1), H', J2, rfl, q3⟩⟩
    | _ => exact False.elim hq'
theorem HR.newIns {K : PySem.W.Frag} {H : Hp} {M : Mp} {x dx : Addr} (hr : HR K H M) (hx : H x = .none) (hd : H dx = .none) (n : dx ≠ x) : HR K (upd (upd H dx (.own x)) x (.ins C dx [])) (put M x (.ins C [])) :=
  (hr.fresh hd).made (noTup_none (by rw [upd_ne (Ne.symm n)]; exact hx)) ⟨dx, [], upd_same, trivial⟩
theorem TExt.newIns {K : PySem.W.Frag} {H : Hp} {x dx : Addr} (hx : H x = .none) (hd : H dx = .none) (n : dx ≠ x) : TExt K H (L2.upd (L2.upd H dx (.own x)) x (.ins C dx [])) :=
  (TExt.new hd).trans (TExt.new ((upd_ne (Ne.symm n)).trans hx))
theorem pd_make (F : MakD X.prog X.w X.K X.mg X.base k x C ps dds sp) (hr : Room (k + 1) X.A) (tk : Takes X (liftW X.K W)) (hg : Gl X x) (ha : PAD X W (e :: es) t)
    (hdb : (x == ("__debug__" : Str)) = false := by decide) (he : starEach (e :: es) X.env = (false, eval e X.env) :: starEach es X.env := by rfl) (hpl : (backTo pos (starEach es X.env)).any (·.1) = false := by rfl) :
    PD X W (.Call (.Name x p) (e :: es) [] pos) (dMake C sp dds t) := by
  obtain ⟨f, fd, dvs, ds0, M, hm, F, hb, hd, hdd⟩ := F.ex
  refine ⟨⟨fun pins s σ H Q I ⟨τ, Mm, Qd, Ed, hs, hr', q, we, k⟩ => wpAny_Call_Name_kw (ld_glob I hg hm ?_ hdb)⟩⟩
  refine PySem.W.callWith_K (h₀ := X.base) I.ok.mod.kin M.kp (thn (ha.run.run pos pins s σ H (fun vs H1 => ∀ a dx, H1 a = none → H1 dx = none → dx ≠ a → liftSp X.K sp (.ref a :: (vs ++ dvs)) (upd (upd H1 dx (.own a)) a (.ins C dx [])) (fun v H2 => v = .non ∧ Q (.ref a) H2) (WE (liftW X.K W) σ)) I
    ⟨τ, Mm, _, Ed, hs, hr', q, we, fun ds M1 vs H1 q1 e1 r1 h1 a dx ha hdx n => ?_⟩) fun us s1 ⟨vs, H1, I1, r, q1⟩ => ⟨I1.kIn, makeS M F hr hb hd (passAt tk σ) I1 r q1⟩) he hpl
  have e2 : TExt X.K H1 (upd (upd H1 dx (.own a)) a (.ins C dx [])) := .newIns ha hdx n
  exact spIn (dvs := dvs) (Qd := fun d M2 => d = .non ∧ Qd (.ref a) M2) (hs.mono (e1.trans e2)) (q1 a (h1.free ha)) (.cons (.ref a) ((r1.mono e2).append (hdd _))) (h1.newIns ha hdx n) we
    fun d M' v H' ⟨ed, h⟩ e' rv h' => ⟨by subst ed; exact rv.toNon, k _ M' _ H' h (e1.trans (e2.trans e')) (.ref a) h'⟩
/-- in a call's inner room -/
theorem run1 {f : Addr} {fd : FuncData} {pins : List (Addr × Obj)} {σ : St} {H : Hp} {s : Shared} {Q : VK} {us : List Value} {vs : List V} {E : XK} {sp' : Sp} (F : FnOk X.prog X.w X.K X.mg X.base (L2.CX X.prog X.w) k f fd ps sp') (hr : Room (k + 1) X.A) (hb : Binds X.K fd ps []) (hx : PassesAt (L2.CX X.prog X.w) X σ E)
    (I : Inv X pins σ H s) (r : Vals vs us) (h : sp' vs H Q E) : wpAny (model X.prog X.w) X.A.in1 (call (.ref f) us) (EP X pins σ Q) X.xe s := by
  have hl : (us ++ []).length = ps.length := by rw [List.append_nil, ← r.length]; exact F.len _ _ _ _ h
  have hb' := hb s us I.kIn hl
  rw [List.append_nil] at hb'
  refine wpAny_call (codeAny_mono (F.run X.A.in1 X.stack s H ⟨us, []⟩ us vs Q E hr.in1 I.env0.in1 hb' r h) fun res s' hq => ?_)
  cases res with
  | error e => exact hx pins H s e s' I hq
  | ok fl =>
    cases fl with
    | ret u => exact I.after hq
    | _ => exact False.elim hq
theorem pd_ixO {a b : Expr} (F : MetD X.prog X.w X.K X.mg X.base k C "__getitem__" ps [] sp) (hfn : ∀ f, PySem.W.findIn X.K (.ref C) "__getitem__" = some (some (.ref f)) → PySem.W.fnIn X.K f = true) (hr : Room (k + 1) X.A) (tk : Takes X (liftW X.K W)) (ho : PD X W a to) (hi : PD X W b ti)
    (hsl : ∀ x i, subscripted b true (.ref x) i = runValue (.builtin "lifetime.subscript" ⟨[.ref x, i], []⟩) := by intro _ _; with_unfolding_all rfl) : PD X W (.Subscript a b pos) (dIxO C sp to ti) := by
  obtain ⟨f, fd, dvs, ds0, cl, hm, F, hb, hd, hdd⟩ := F.ex
  have e0 : dvs = [] := (hdd H0n).nil_of
  subst e0
  have e1 : ds0 = [] := by cases hd; rfl
  subst e1
  refine ⟨⟨fun pins s σ H Q I ⟨τ, M, Qd, Ed, hs, hr', q, we, k⟩ => Subscript_ (binT (R := fun x y H2 => ∃ a dx fs, x = .ref a ∧ H2 a = some (.ins C dx fs) ∧ liftSp X.K sp [.ref a, y] H2 Q (WE (liftW X.K W) σ)) ho.run hi.run I
    ⟨τ, M, _, Ed, hs, hr', q, we, fun od M1 ov H1 q1 e1 r1 h1 => ⟨τ, M1, _, Ed, hs.mono e1, h1, q1, we, fun y M2 yv H2 q2 e2 r2 h2 => ?_⟩⟩ fun v u s2 x y H2 I2 rx ry ⟨a, dx, fs, ex, ea, q2⟩ => ?_)⟩⟩
  · dsimp only at q2
    split at q2
    · rename_i a
      split at q2
      · rename_i C' fs ea
        obtain ⟨rfl, q2⟩ := q2
        obtain ⟨dx, vs, hv, _⟩ := h2.ins ea
        exact ⟨a, dx, vs, (r1.mono e2).toRef, hv, spIn (dvs := []) (hs.mono (e1.trans e2)) q2 (.cons (.ref a) (.cons r2 .nil)) h2 we (k.mono (e1.trans e2))⟩
      · exact q2.elim
    · exact q2.elim
  · subst ex
    cases (show v = Value.ref a from rx)
    obtain ⟨m, Fr⟩ := I2.fr
    obtain ⟨mA, O, _⟩ := ins_get I2.hok ea
    obtain ⟨od, J, _⟩ := O.look
    exact PySem.W.sub_K Fr I2.ok.mod.kin J hm.at_ (hfn f hm.at_) hm.fn (run1 F hr hb (passAt tk σ) I2 (.cons (show RelV (.ref a) (.ref a) from rfl) (.cons ry .nil)) q2) (hsl a u)
end
end DL

set_option maxHeartbeats 4000000
namespace DL
open PySem L2
section
variable {X : Cx} {W : DW} {pos p p2 np pos' : Pos}
/-- what the written part says of an exception class of the program, without its own __init__ -/
structure ExcK (K : PySem.W.Frag) (mg : Str → Option Value) (x : Str) (C : Addr) : Prop where
  q : PySem.W.excIn K C [.type "ValueError", .type "Exception", .type "BaseException", .type "object"] "ValueError.__new__" = true
  m : mg x = some (.ref C)
  k : PySem.W.keepIn K (.ref C) = true
  s : PySem.W.subIn K (.ref C) (.type "BaseException") = some true
  t : PySem.W.typeIn K (.ref C) = some (.type "type")
def dRaise (C : Addr) : DS := fun Dn τ M => Dn.ex ⟨.ref C, none, []⟩ τ M
theorem psd_raise {x m : Str} {C : Addr} {j : Nat} (E : ExcK X.K X.mg x C) (hc : X.calm = true) (tk : Takes X (liftW X.K W)) (hg : Gl X x) (hdb : (x == ("__debug__" : Str)) = false := by decide) :
    PSD X W (.Raise (some (.Call (.Name x p) [.Constant (.str m) j p2] [] pos')) none pos) (dRaise C) :=
  ⟨PSimp (ps_raise hc tk (pmk_own PySem.F.excBase_ValueError E.q E.m E.k (raises_own E.s E.t) hg hdb)) fun De σ H ⟨τ, M, Dd, hs, hr, q, we, nc⟩ =>
    ⟨⟨.ref C, none, []⟩, τ, M, hs, hr, ⟨rfl, rfl, fun dx e => by cases e⟩, we _ τ M q⟩⟩
theorem RS.setN {K : PySem.W.Frag} {H0 H : Hp} {σ : St} {τ : Sl} (h : RS K H0 H σ τ) (i : Nat) : RS K H0 H (σ.set i none) (τ.set i none) := ⟨h.ext, by simpa using h.len, fun j e q => by
  by_cases c : i = j
  · subst c
    by_cases hi : i < τ.length
    · rw [List.getElem?_set_self hi] at q; cases q
    · rw [List.getElem?_eq_none (by simpa using hi)] at q; cases q
  · rw [List.getElem?_set_ne c] at q ⊢
    exact h.at_ j e q⟩
/-- the exception's own attributes beside the rest -/
def caught (x : DX) (M : Mp) : Mp := match x.d with
  | some dx => put M dx (.xd x.fs)
  | none => M
theorem caught_ok {K : PySem.W.Frag} {H : Hp} {M : Mp} {cls : Value} {d : Option Addr} {x : DX} (h : HR K H M) (xr : XR K H cls d x) : HR K H (caught x M) := by
  unfold caught
  obtain ⟨_, e, r⟩ := xr
  cases hd : x.d with
  | none => exact h
  | some dx =>
    intro a o q
    by_cases c : a = dx
    · subst c
      have q' : put M a (.xd x.fs) a = some o := q
      rw [put_same] at q'
      cases q'
      exact r a (by rw [e, hd])
    · have q' : put M dx (.xd x.fs) a = some o := q
      rw [put_ne c] at q'
      exact h a o q'
/-- what an exception of the body meets; c the class that is named, i the name's slot -/
def hAs (K : PySem.W.Frag) (c : Value) (i : Nat) (ts : DX → Addr → DS) (Dn : DN) : DX → Sl → Mp → Prop := fun x τ M =>
  ∃ b, PySem.W.exmOne K x.cls c = some b ∧ (b = true → ∀ a, M a = none → ts x a { nx := fun τ' M' => Dn.nx (τ'.set i none) M', rt := Dn.rt, bk := fun τ' M' => Dn.bk (τ'.set i none) M', ct := fun τ' M' => Dn.ct (τ'.set i none) M' } (τ.set i (some (.ref a))) (caught x M)) ∧
    (b = false → Dn.ex x τ M)
def dTryAs (K : PySem.W.Frag) (c : Value) (i : Nat) (t : DS) (ts : DX → Addr → DS) : DS := fun Dn τ M => t { Dn with ex := hAs K c i ts Dn } τ M
def Wn (H0 : Hp) : DW := ⟨H0, fun _ _ _ => False⟩
theorem RS.base {K : PySem.W.Frag} {H0 H1 H : Hp} {σ : St} {τ : Sl} (h : RS K H1 H σ τ) (e : TExt K H0 H) : RS K H0 H σ τ := ⟨e, h.len, h.at_⟩
theorem NC.base {K : PySem.W.Frag} {H0 H : Hp} {Dd : DN} {De : Ends} (h : NC K H0 H Dd De) (e : TExt K H0 H) : NC K H H Dd De :=
  ⟨fun τ M σ H' q x rs hr => h.nx τ M σ H' q x (rs.base (e.trans x)) hr, h.rt, fun τ M σ H' q x rs hr => h.bk τ M σ H' q x (rs.base (e.trans x)) hr, fun τ M σ H' q x rs hr => h.ct τ M σ H' q x (rs.base (e.trans x)) hr⟩
theorem psd_try_as {x n : Str} {c : Value} {i : Nat} {body suite : List Stmt} {b₀ : Stmt} {t : DS} {ts : DX → Addr → DS} (hs : X.stack = X.env :: X.outer) (hf : X.env.frame = some X.env.locals) (hN : X.N.Nodup) (hi : X.N[i]? = some n) (hln : X.env.kindOf n = some .local) (hc : Names X x c) (tk : Takes X (liftW X.K W))
    (hb : ∀ (W' : DW) (pn : List (Addr × Obj)) (xe : Value → Shared → Prop), Takes (X.tr pn xe) (liftW X.K W') → PassesOwn (model X.prog X.w) X.A X.env xe → PSsD (X.tr pn xe) W' body t)
    (hsu : ∀ (y : DX) (a : Addr) (oe : Obj) (pn : List (Addr × Obj)), Zc y.cls y.d oe → (∃ vs, oe.data = .fields vs) → PSsD (X.suite a ((a, oe) :: pn)) (Wn W.h0) (b₀ :: suite) (ts y a)) :
    PSD X W (.Try body [.ExceptHandler (some (.Name x np)) (some n) (b₀ :: suite) pos'] [] [] pos) (dTryAs X.K c i t ts) := by
  refine ⟨PSimp (ps_try_as (tb := fun Wx De σ H => ∃ W' : DW, (∀ cls d σ H, liftW X.K W' cls d σ H → Wx cls d σ H) ∧ liftS X.K W' t De σ H) (ts := fun a cls d De σ H => ∃ y, cls = y.cls ∧ d = y.d ∧ liftS X.K (Wn W.h0) (ts y a) De σ H)
    (Wout := liftW X.K W) hs hf hN hi hln hc tk (fun Wx pn xe htk hpo => ⟨fun pins s σ H De I ⟨W', hw, h⟩ => (hb W' pn xe (htk.imp hw) hpo).run.run pins s σ H De I h⟩) (fun a oe cls d pn hz hd => ⟨fun pins s σ H De I ⟨y, e1, e2, h⟩ => ?_⟩)) fun De σ H ⟨τ, M, Dd, hs, hr, q, we, nc⟩ => ?_⟩
  · subst e1; subst e2
    exact (hsu y a oe pn hz hd).run.run pins s σ H De I h
  · refine ⟨⟨H, fun y τ' M' => hAs X.K c i ts Dd y τ' M'⟩, ?_, τ, M, { Dd with ex := hAs X.K c i ts Dd }, hs.base .refl, hr, q, fun y τ' M' h => h, (nc.base hs.ext).nx, (nc.base hs.ext).rt, (nc.base hs.ext).bk, (nc.base hs.ext).ct⟩
    rintro cls d σ' H' ⟨y, τ', M', hs', hr', xr, b, hb1, hy, hn⟩
    refine ⟨b, by rw [xr.1]; exact hb1, fun eb a ha => ⟨y, xr.1, xr.2.1, τ'.set i (some (.ref a)), caught y M', _, (hs'.base (hs.ext.trans hs'.ext)).set (.ref a), caught_ok hr' xr, hy eb a (hr'.free ha), fun _ _ _ z => z.elim, ?_⟩, fun eb => ⟨y, τ', M', hs'.base (hs.ext.trans hs'.ext), hr', xr, we y τ' M' (hn eb)⟩⟩
    exact ⟨fun τ2 M2 σ2 H2 q2 e2 rs2 hr2 => nc.nx _ M2 _ H2 q2 (hs'.ext.trans e2) (rs2.setN i) hr2, fun d2 M2 v H2 q2 e2 => nc.rt d2 M2 v H2 q2 (hs'.ext.trans e2), fun τ2 M2 σ2 H2 q2 e2 rs2 hr2 => nc.bk _ M2 _ H2 q2 (hs'.ext.trans e2) (rs2.setN i) hr2, fun τ2 M2 σ2 H2 q2 e2 rs2 hr2 => nc.ct _ M2 _ H2 q2 (hs'.ext.trans e2) (rs2.setN i) hr2⟩
/-- isinstance(e, C) of the exception that the suite holds -/
def isxG (K : PySem.W.Frag) (y : DX) (a : Addr) : DG := fun ds M Q => match ds with
  | [.ref a', c] => a' = a ∧ y.d = none ∧ ∃ D b cv, y.cls = .ref D ∧ ExcC K D ∧ ((∃ C, c = .ref C ∧ cv = .ref C) ∨ ∃ n, c = .ty n ∧ cv = .type n) ∧ PySem.W.kitOne K (.ref D) cv = some b ∧ Q (.bl b) M
  | _ => False
theorem call_isxG {y : DX} {a : Addr} {oe : Obj} {pn : List (Addr × Obj)} (hz : Zc y.cls y.d oe) (hf : ∃ vs, oe.data = .fields vs) : CallR (X.suite a ((a, oe) :: pn)) (.builtin "isinstance") (liftC X.K (isxG X.K y a)) := by
  intro pins s σ H xs us Q I rs ⟨ds, M, Qd, q, r, hr, k⟩
  unfold isxG at q
  split at q
  · rename_i a' c
    obtain ⟨rfl, hd, D, b, cv, ec, C, hc, kk, q⟩ := q
    obtain ⟨v, v', rfl, rv, rv'⟩ := r.two
    obtain ⟨u1, u2, rfl, r1, r2⟩ := vals2 rs
    rw [rv.toRef] at r1
    cases (show u1 = Value.ref a' from r1)
    have e2 : u2 = cv := by
      rcases hc with ⟨C', rfl, rfl⟩ | ⟨n, rfl, rfl⟩
      · rw [rv'.toRef] at r2; exact r2
      · rw [rv'.toTy] at r2; exact r2
    subst e2
    obtain ⟨hget, _⟩ := I.pin (a', oe) (List.mem_append.mpr (.inl List.mem_cons_self))
    obtain ⟨vs, hv⟩ := hf
    have J : PySem.W.InstAt s.heap a' oe D none := ⟨hget, by rw [hz.1]; exact ec, by unfold PySem.W.notCls; rw [hv] <;> rfl, by rw [hz.2, hd]; trivial⟩
    exact PySem.W.kia_one (PySem.W.handS_kitx_exc C.hg C.hk C.hs C.hd C.ha C.hn C.ht C.hm) I.kIn J kk (fun z => nomatch z) fun tk => ⟨.bl b, H, I.kept (t' := tk) fun _ _ z => z, rfl, k _ M _ H q .refl (.bl _) hr⟩
  · exact q.elim
end
end DL

set_option maxHeartbeats 4000000
namespace PySem
namespace DLmul
open PySem.SeqAt
open PySem.AutoSeq1 (wpAny_loadPart')
open PySem.MeetsSeq PySem.MeetsSeq2 PySem.MeetsSeq3 PySem.SeqRoads2
/-- once, or an empty one: the tuple itself -/
theorem mul_self (l : Addr) (items : Array Value) (n : Nat) (dd : Option Addr) (sl : Array (Option Value)) (x : Int) (u : Tok) (c0 : (decide (x < -(2 ^ 63)) || decide (x ≥ 2 ^ 63)) = false) (c1 : (items.isEmpty || x == 1) = true) :
    Meets (Builtin.«tuple.__mul__» ⟨[.ref l, .int x u], []⟩) (fun _ R s => s.heap.get? l = some { cls := .type "tuple", dict := dd, data := .seq items n, slots := sl } ∧ R (.ok (.ret (.ref l))) s) :=
  .of_wp fun prog w A R s h => by
    obtain ⟨hp, g, d, tk, os⟩ := s
    obtain ⟨hl, h⟩ := h
    have f1 := AutoSeq1.idx_int
    wp_walk using wpAny_loadPart' hl
    repeat (first
      | (refine wpAny_ite_false (decide_eq_false (by rw [c0]; exact Bool.false_ne_true)) ?_; wp_walk using wpAny_loadPart' hl)
      | (refine wpAny_ite_true (decide_eq_true c1) ?_; wp_walk using wpAny_loadPart' hl))
    exact ⟨_, rfl, h⟩
theorem mul_zero (l : Addr) (items : Array Value) (n : Nat) (dd : Option Addr) (sl : Array (Option Value)) (x : Int) (u : Tok) (c0 : (decide (x < -(2 ^ 63)) || decide (x ≥ 2 ^ 63)) = false) (c1 : (items.isEmpty || x == 1) = false) (c2 : (decide (x ≤ 0) || items.isEmpty) = true) :
    Meets (Builtin.«tuple.__mul__» ⟨[.ref l, .int x u], []⟩) (fun _ R s => s.heap.get? l = some { cls := .type "tuple", dict := dd, data := .seq items n, slots := sl } ∧ R (.ok (.ret (.ref s.heap.objs.size))) { s with heap := s.heap.push { cls := .type "tuple", data := .seq #[] } }) :=
  .of_wp fun prog w A R s h => by
    obtain ⟨hp, g, d, tk, os⟩ := s
    obtain ⟨hl, h⟩ := h
    have f1 := AutoSeq1.idx_int
    wp_walk using wpAny_loadPart' hl
    repeat (first
      | (refine wpAny_ite_false (decide_eq_false (by rw [c0]; exact Bool.false_ne_true)) ?_; wp_walk using wpAny_loadPart' hl)
      | (refine wpAny_ite_false (decide_eq_false (by rw [c1]; exact Bool.false_ne_true)) ?_; wp_walk using wpAny_loadPart' hl)
      | (refine wpAny_ite_true (decide_eq_true c2) ?_; wp_walk using wpAny_loadPart' hl))
    exact ⟨_, rfl, h⟩
end DLmul
end PySem

namespace DL
open PySem L2
theorem bt_tuple : bootBuiltins "tuple" = some (.type "tuple") := by decide +kernel
theorem bt_list : bootBuiltins "list" = some (.type "list") := by decide +kernel
theorem bt_int : bootBuiltins "int" = some (.type "int") := by decide +kernel
theorem bt_str : bootBuiltins "str" = some (.type "str") := by decide +kernel
theorem bt_bool : bootBuiltins "bool" = some (.type "bool") := by decide +kernel
theorem bt_dict : bootBuiltins "dict" = some (.type "dict") := by decide +kernel
theorem bt_ValueError : bootBuiltins "ValueError" = some (.type "ValueError") := by decide +kernel
theorem bt_len : bootBuiltins "len" = some (.builtin "len") := by decide +kernel
theorem bt_isinstance : bootBuiltins "isinstance" = some (.builtin "isinstance") := by decide +kernel
theorem bt_all : bootBuiltins "all" = some (.builtin "all") := by decide +kernel
theorem bt_any : bootBuiltins "any" = some (.builtin "any") := by decide +kernel
theorem bt_max : bootBuiltins "max" = some (.builtin "max") := by decide +kernel
theorem bt_min : bootBuiltins "min" = some (.builtin "min") := by decide +kernel
section
variable {X : Cx} {W : DW} {pos : Pos}
theorem tk0 : Takes X (liftW X.K W0) := (takes0 (X := X)).imp fun _ _ _ _ ⟨_, _, _, _, _, _, h⟩ => h
theorem tkn {H0 : Hp} : Takes X (liftW X.K (Wn H0)) := (takes0 (X := X)).imp fun _ _ _ _ ⟨_, _, _, _, _, _, h⟩ => h
/-- a built-in class as a value -/
theorem pd_ty {x : Str} {n : String} (hg : Gl X x) (hm : X.mg x = none) (hv : bootBuiltins x = some (.type n)) (hn : x ≠ "__name__" := by decide) (hd : (x == ("__debug__" : Str)) = false := by decide) : PD X W (.Name x pos) (dC (.ty n)) :=
  pd_c (pe_bltn (v := .ty n) hg hm hv rfl hn hd) fun _ => .ty n
/-- a class of the program as a value -/
theorem pd_cls {x : Str} {C : Addr} (hg : Gl X x) (hm : X.mg x = some (.ref C)) (hd : (x == ("__debug__" : Str)) = false := by decide) : PD X W (.Name x pos) (dC (.ref C)) :=
  pd_c (pe_glob (v := .ref C) hg hm rfl hd) fun _ => .ref C
/-- a constant of the module -/
theorem pd_gint {x : Str} {i : Int} {t : Tok} (hg : Gl X x) (hm : X.mg x = some (.int i t)) (hd : (x == ("__debug__" : Str)) = false := by decide) : PD X W (.Name x pos) (dC (.int i)) :=
  pd_c (pe_glob (v := .int i) hg hm ⟨t, rfl⟩ hd) fun _ => .int i
theorem pd_gstr {x : Str} {z : Str} {t : Tok} (hg : Gl X x) (hm : X.mg x = some (.str z t)) (hd : (x == ("__debug__" : Str)) = false := by decide) : PD X W (.Name x pos) (dC (.str z)) :=
  pd_c (pe_glob (v := .str z) hg hm ⟨t, rfl⟩ hd) fun _ => .str z
/-- t * k, any k -/
def rRepA (K : PySem.W.Frag) : R2 := fun x y H Q => ∃ l k xs, x = .ref l ∧ y = .int k ∧ SqT K H l xs ∧ -(2 ^ 63) ≤ k ∧ k < 2 ^ 63 ∧ xs.length * k.toNat ≤ sizeLine ∧ (xs = [] ∨ k = 1 → Q (.ref l) H) ∧
  (¬ (xs = [] ∨ k = 1) → ∀ p, H p = none → Q (.ref p) (upd H p (.tup (List.replicate k.toNat xs).flatten)))
theorem op_repA : OpR X (binaryOp .Mult) (rRepA X.K) := by
  intro pins s σ H x y v u Q I rx ry ⟨l, k, xs, ex, ey, hT, k1, k2, hz, q1, q2⟩
  subst ex; subst ey
  cases rx
  obtain ⟨t, rfl⟩ := ry
  obtain ⟨its, r, ⟨⟨cls, dd, data, sl⟩, ho, hc, n, hd⟩, hs⟩ := I.tuple hT
  simp only at hc hd
  subst hc hd
  have hle : its.length = xs.length := r.length.symm
  have c0 : (decide (k < -(2 ^ 63)) || decide (k ≥ 2 ^ 63)) = false := by simp; omega
  have he : its.toArray.isEmpty = decide (xs = []) := by
    cases r with
    | nil => simp
    | cons _ _ => simp
  have road : ∀ {P : Builtin → (Result → Shared → Prop) → Shared → Prop} {b : Fin → Prop}, True := fun {_ _} => trivial
  have go : wpAny (model X.prog X.w) X.A (call (.builtin "tuple.__mul__") [.ref l, .int k t]) (EP X pins σ Q) X.xe s → wpAny (model X.prog X.w) X.A (binaryOp .Mult (.ref l) (.int k t)) (EP X pins σ Q) X.xe s := fun h =>
    wpAny_binaryOp_repeat_ref (T := "tuple") (U := "int") (by decide) ⟨_, ho, rfl⟩ (fun s' => typeIs_int s' k t) noFill_tuple_mul F.fills_int_mul F.slot_int_rmul repeat_tuple F.slot_int_index.lookup
      (call_meets F.slot_int_rmul (typeIs_int s k t) F.entry_int_rmul (F.args_int_rmul_2 _ _) (int_rmul_tuple k t l its.toArray n dd sl) ⟨ho, rfl, ⟨_, ho, rfl⟩, h⟩)
  by_cases hw : xs = [] ∨ k = 1
  · refine go (call_meets F.slot_tuple_mul ⟨_, ho, rfl⟩ F.entry_tuple_mul (F.args_tuple_mul_2 _ _) (DLmul.mul_self l its.toArray n dd sl k t c0 ?_) ⟨ho, ⟨.ref l, H, I, rfl, q1 hw⟩⟩)
    rw [he]
    rcases hw with h | h <;> simp [h]
  · have hx : xs ≠ [] := fun e => hw (.inl e)
    have hk : k ≠ 1 := fun e => hw (.inr e)
    have c1 : (its.toArray.isEmpty || k == 1) = false := by rw [he]; simp [hx, hk]
    by_cases hp : k ≤ 0
    · refine go (call_meets F.slot_tuple_mul ⟨_, ho, rfl⟩ F.entry_tuple_mul (F.args_tuple_mul_2 _ _) (DLmul.mul_zero l its.toArray n dd sl k t c0 c1 (by simp [hp])) ⟨ho, ?_⟩)
      have e0 : k.toNat = 0 := by omega
      refine ⟨.ref s.heap.objs.size, _, I.laid (t' := s.toks) (o := .tup []) (fun b ob q => Heap.get?_push_of_some _ q) (Nat.le_refl _) ⟨Nat.zero_le _, [], .nil, PyProof.Rows.IsTup.new _ _⟩, rfl, ?_⟩
      have := q2 hw s.heap.objs.size (I.hok.fresh (Nat.le_refl _))
      rw [e0] at this
      exact this
    · have hsz : (List.replicate k.toNat its).flatten.length ≤ sizeLine := by rw [PyProof.Rows.lm_len_rep_flat, hle, Nat.mul_comm]; exact hz
      have hm : ((its.toArray.size : Nat) : Int) * k ≤ 16777216 := by
        have e1 : k = (k.toNat : Int) := by omega
        rw [sizeLine_eq] at hz
        rw [e1, List.size_toArray, hle, ← Int.natCast_mul]
        exact Int.ofNat_le.mpr hz
      refine go (call_meets F.slot_tuple_mul ⟨_, ho, rfl⟩ F.entry_tuple_mul (F.args_tuple_mul_2 _ _) (tuple_mulW l its.toArray n dd sl k t c0 c1 (by rw [he]; simp [hx]; omega) (by omega) ?_ (by rw [size_rep, List.size_toArray]; exact hsz)) ⟨ho, ?_⟩)
      · unfold Builtin.Tuple.tupleTooMany
        rw [sizeLine_eq]
        exact decide_eq_false (by omega)
      · rw [size_rep]
        exact ⟨.ref s.heap.objs.size, _, I.laid (t' := s.toks) (o := .tup (List.replicate k.toNat xs).flatten) (fun b ob q => Heap.get?_push_of_some _ q) (Nat.le_refl _) ⟨by rw [PyProof.Rows.lm_len_rep_flat, Nat.mul_comm]; exact hz, _, r.rep k.toNat, PyProof.Rows.IsTup.new _ _⟩, rfl, q2 hw _ (I.hok.fresh (Nat.le_refl _))⟩
/-- * -/
def mulD : DO := fun x y M Q => match x, y with
  | .int i, .int j => CMulX i j ∧ Q (.int (i * j)) M
  | .tup xs, .int k => (-(2 ^ 63) ≤ k ∧ k < 2 ^ 63 ∧ xs.length * k.toNat ≤ sizeLine) ∧ Q (.tup (List.replicate k.toNat xs).flatten) M
  | .ref a, .int k => match M a with
    | some (.lst xs) => (-(2 ^ 63) ≤ k ∧ k < 2 ^ 63 ∧ xs.length * k.toNat ≤ sizeLine) ∧ ∀ p, M p = none → Q (.ref p) (put M p (.lst (List.replicate k.toNat xs).flatten))
    | _ => False
  | _, _ => False
theorem op_mulD : OpR X (binaryOp .Mult) (liftO X.K mulD) :=
  OpRimp ((op_mulX (X := X)).or ((op_repA (X := X)).or (op_rep (X := X)))) fun x y H Q ⟨dx, dy, M, Qd, q, a, b, c, k⟩ => by
    unfold mulD at q
    split at q
    · exact .inl ⟨_, _, a.toInt, b.toInt, q.1, k _ M _ H q.2 .refl (.int _) c⟩
    · rename_i xs kk
      obtain ⟨pa, va, rfl, sa, la⟩ := a.toTup
      obtain ⟨⟨k2, k3, z⟩, q⟩ := q
      refine .inr (.inl ⟨pa, kk, va, rfl, b.toInt, sa, k2, k3, by rw [la.length]; exact z, fun e => ?_, fun _ p hp => k.tup c (la.rep _) hp q⟩)
      rcases e with e | e
      · subst e
        have e' : xs = [] := by cases la; rfl
        subst e'
        have e2 : (List.replicate kk.toNat ([] : List D)).flatten = [] := by simp
        rw [e2] at q
        exact k _ M _ H q .refl (.tup sa la) c
      · subst e
        have e2 : (List.replicate (1 : Int).toNat xs).flatten = xs := by simp
        rw [e2] at q
        exact k _ M _ H q .refl (.tup sa la) c
    · rename_i pa kk
      split at q
      · rename_i xs e1
        obtain ⟨va, ha, la⟩ := c.lst e1
        obtain ⟨⟨k1, k2, z⟩, q⟩ := q
        exact .inr (.inr ⟨pa, kk, va, a.toRef, b.toInt, ha, k1, k2, by rw [la.length]; exact z, fun p hp => k.lst c (la.rep _) hp q⟩)
      · exact q.elim
    · exact q.elim
/-- a < b < c -/
def dChain (g g' : DO) (ta tb tc : DE) : DE := fun τ M Q E => ta τ M (fun x M1 => tb τ M1 (fun y M2 => g x y M2 (fun z M3 => match z with
  | .bl k => if k = true then tc τ M3 (fun z2 M4 => g' y z2 M4 Q) E else Q (.bl false) M3
  | _ => False)) E) E
theorem dChain_lift {g g' : DO} {ta tb tc : DE} {σ : L2.St} {H : Hp} {Q : VK} (h : liftE X.K W (dChain g g' ta tb tc) σ H Q) : tChain (liftO X.K g) (liftO X.K g') (liftE X.K W ta) (liftE X.K W tb) (liftE X.K W tc) σ H Q := by
  obtain ⟨τ, M, Qd, Ed, hs, hr, q, we, k⟩ := h
  refine ⟨τ, M, _, Ed, hs, hr, q, we, fun x M1 v H1 q1 e1 r1 h1 => ⟨τ, M1, _, Ed, hs.mono e1, h1, q1, we, fun y M2 u H2 q2 e2 r2 h2 => ?_⟩⟩
  refine ⟨x, y, M2, _, q2, r1.mono e2, r2, h2, fun z M3 zv H3 q3 e3 r3 h3 => ?_⟩
  dsimp only at q3
  split at q3
  · rename_i b
    refine ⟨b, r3.toBl, ?_⟩
    cases b with
    | false => exact k _ M3 _ H3 (by simpa using q3) (e1.trans (e2.trans e3)) (.bl _) h3
    | true =>
      simp only [if_true] at q3 ⊢
      exact ⟨τ, M3, _, Ed, hs.mono (e1.trans (e2.trans e3)), h3, q3, we, fun w M4 wv H4 q4 e4 r4 h4 => ⟨y, w, M4, Qd, q4, r2.mono (e3.trans e4), r4, h4, k.mono (e1.trans (e2.trans (e3.trans e4)))⟩⟩
  · exact q3.elim
theorem pd_chain {op op' : CmpOp} {g g' : DO} {a b c : Expr} {ta tb tc : DE} (ho : OpR X (compareOp op) (liftO X.K g)) (ho' : OpR X (compareOp op') (liftO X.K g')) (ha : PD X W a ta) (hb : PD X W b tb) (hc : PD X W c tc)
    (hm : lastMarks [op, op'] [b, c] = false := by with_unfolding_all rfl) : PD X W (.Compare a [op, op'] [b, c] pos) (dChain g g' ta tb tc) := ⟨PEimp (pe_chain ho ho' ha.run hb.run hc.run hm) fun _ _ _ h => dChain_lift h⟩
theorem ptd_chain {op op' : CmpOp} {g g' : DO} {a b c : Expr} {ta tb tc : DE} (ho : OpR X (compareOp op) (liftO X.K g)) (ho' : OpR X (compareOp op') (liftO X.K g')) (ha : PD X W a ta) (hb : PD X W b tb) (hc : PD X W c tc)
    (hm : lastMarks [op, op'] [b, c] = false := by with_unfolding_all rfl) : PTD X W (.Compare a [op, op'] [b, c] pos) (dB (dChain g g' ta tb tc)) :=
  ⟨PTimp (pt_chain ho ho' ha.run hb.run hc.run hm) fun σ H Q h => dChain_lift (Q := fun x H1 => ∃ k, x = .bl k ∧ Q k H1) (W := W) (by
    obtain ⟨τ, M, Qd, Ed, hs, hr, q, we, k⟩ := h
    exact ⟨τ, M, _, Ed, hs, hr, q, we, fun d M1 v H1 q1 e1 r1 h1 => by
      dsimp only at q1
      split at q1
      · exact ⟨_, r1.toBl, k _ M1 H1 q1 e1 h1⟩
      · exact q1.elim⟩)⟩
end
end DL
namespace DL
open PySem L2
/-! ### loops by an invariant -/
theorem dLoop_inv {g : DGt} {tb : DS} {kp : Mp → Prop} {Dn : DN} {its : List D} (I : Nat → Sl → Mp → Prop) (hk : ∀ i τ M, i ≤ its.length → I i τ M → kp M)
    (hs : ∀ (i : Nat) (d : D) (τ : Sl) (M : Mp) (nxt : Sl → Mp → Prop), its[i]? = some d → I i τ M → (∀ τ' M', I (i + 1) τ' M' → nxt τ' M') → g d τ M fun τ2 M2 => tb { Dn with nx := nxt, ct := nxt, bk := Dn.nx } τ2 M2)
    (hd : ∀ τ M, I its.length τ M → Dn.nx τ M) {τ : Sl} {M : Mp} (h0 : I 0 τ M) : dLoop g tb kp its Dn τ M := by
  have go : ∀ (n i : Nat), its.length - i = n → i ≤ its.length → ∀ τ M, I i τ M → dLoop g tb kp (its.drop i) Dn τ M := by
    intro n
    induction n with
    | zero =>
      intro i e hi τ M h
      have : i = its.length := by omega
      subst this
      rw [List.drop_length]
      exact ⟨hk _ _ _ hi h, hd τ M h⟩
    | succ n ih =>
      intro i e hi τ M h
      have hlt : i < its.length := by omega
      rw [List.drop_eq_getElem_cons hlt]
      exact ⟨hk _ _ _ hi h, hs i _ τ M _ (by simp [hlt]) h fun τ' M' h' => ih (i + 1) (by omega) hlt τ' M' h'⟩
  simpa using go _ 0 rfl (Nat.zero_le _) τ M h0
theorem dCL_inv {g : D → Sl → Sl} {tt : DT} {te : DE} {kp : Mp → Prop} {p : Addr} {τ : Sl} {F : Mp → Prop} {its : List D} (I : Nat → Mp → Prop) (hk : ∀ i M, i ≤ its.length → I i M → kp M)
    (hs : ∀ (i : Nat) (d : D) (M : Mp) (nxt : Mp → Prop), its[i]? = some d → I i M → (∀ M', I (i + 1) M' → nxt M') → tt (g d τ) M (fun b M1 => if b = true then te (g d τ) M1 (fun y M2 => match M2 p with
      | some (.lst acc) => acc.length < sizeLine ∧ nxt (put M2 p (.lst (acc ++ [y])))
      | _ => False) noE else nxt M1) noE)
    (hd : ∀ M, I its.length M → F M) {M : Mp} (h0 : I 0 M) : dCL g tt te kp p τ F its M := by
  have go : ∀ (n i : Nat), its.length - i = n → i ≤ its.length → ∀ M, I i M → dCL g tt te kp p τ F (its.drop i) M := by
    intro n
    induction n with
    | zero =>
      intro i e hi M h
      have : i = its.length := by omega
      subst this
      rw [List.drop_length]
      exact ⟨hk _ _ hi h, hd M h⟩
    | succ n ih =>
      intro i e hi M h
      have hlt : i < its.length := by omega
      rw [List.drop_eq_getElem_cons hlt]
      exact ⟨hk _ _ hi h, hs i _ M _ (by simp [hlt]) h fun M' h' => ih (i + 1) (by omega) hlt M' h'⟩
  simpa using go _ 0 rfl (Nat.zero_le _) M h0
end DL

set_option maxHeartbeats 4000000
namespace DL
open PySem L2
/-! ### tuples of ints in readings -/
def T (xs : List Int) : D := .tup (xs.map D.int)
variable {xs ys : List Int} {M : Mp} {Q : DK} {i j : Int}
theorem T_inj : T xs = T ys ↔ xs = ys := by
  unfold T
  constructor
  · intro h
    injection h with h
    exact (List.map_inj_right (fun a b e => by injection e)).mp h
  · rintro rfl; rfl
theorem getD_of {n : Nat} (h : n < xs.length) : xs[n]? = some (xs.getD n 0) := by
  rw [List.getD_eq_getElem?_getD, List.getElem?_eq_getElem h]; rfl
theorem lenG_T : lenG [T xs] M Q = Q (.int xs.length) M := by simp [lenG, lenD, T]
theorem ixN_in {n : Nat} (h0 : 0 ≤ i) (h1 : i < n) : ixN n i = some i.toNat := by
  unfold ixN
  rw [if_pos h0, if_pos h1]
theorem atI_T (h0 : 0 ≤ i) (h1 : i < xs.length) : atI (xs.map D.int) i = some (.int (xs.getD i.toNat 0)) := by
  unfold atI
  rw [List.length_map, ixN_in h0 h1]
  show (xs.map D.int)[i.toNat]? = _
  rw [List.getElem?_map, getD_of (by omega)]
  rfl
theorem ixG_T (h0 : 0 ≤ i) (h1 : i < xs.length) : ixG (T xs) (.int i) M Q = Q (.int (xs.getD i.toNat 0)) M := by
  unfold T ixG
  simp only
  rw [atI_T h0 h1]
theorem addD_T : addD (T xs) (T ys) M Q = (xs.length + ys.length ≤ sizeLine ∧ Q (T (xs ++ ys)) M) := by
  unfold T addD
  simp only [List.length_map, List.map_append]
theorem mulD_T {k : Int} : mulD (T xs) (.int k) M Q = ((-(2 ^ 63) ≤ k ∧ k < 2 ^ 63 ∧ xs.length * k.toNat ≤ sizeLine) ∧ Q (T (List.replicate k.toNat xs).flatten) M) := by
  unfold T mulD
  simp only [List.length_map, List.map_flatten, List.map_replicate]
theorem okL_ints : okL (xs.map D.int) = true := by
  induction xs with
  | nil => rfl
  | cons a l ih => simp [okL, ok, ih]
theorem depL_ints : depL (xs.map D.int) = 0 := by
  induction xs with
  | nil => rfl
  | cons a l ih => simp [depL, dep, ih]
theorem eqbL_ints : ∀ {xs ys : List Int}, eqbL (xs.map D.int) (ys.map D.int) = decide (xs = ys)
  | [], [] => by simp [eqbL]
  | [], _ :: _ => by simp [eqbL]
  | _ :: _, [] => by simp [eqbL]
  | x :: xs, y :: ys => by
    simp [eqbL, eqb, eqbL_ints (xs := xs) (ys := ys)]
    rw [Bool.beq_eq_decide_eq]
theorem eqG_T {n : Bool} : eqG n (T xs) (T ys) M Q = Q (.bl (n != decide (xs = ys))) M := by
  unfold T eqG eqOk
  simp [ok, dep, okL_ints, depL_ints, eqb, eqbL_ints]
theorem eqG_int {n : Bool} : eqG n (.int i) (.int j) M Q = Q (.bl (n != decide (i = j))) M := rfl
theorem eqD_T : eqD (T xs) (T ys) M Q = Q (.bl (decide (xs = ys))) M := by unfold eqD; rw [eqG_T, Bool.false_bne]
theorem eqD_int : eqD (.int i) (.int j) M Q = Q (.bl (decide (i = j))) M := by unfold eqD; rw [eqG_int, Bool.false_bne]
theorem neD_int : neD (.int i) (.int j) M Q = Q (.bl (!decide (i = j))) M := by unfold neD; rw [eqG_int, Bool.true_bne]
theorem rng_at {n : Nat} {f : Nat → D} {i : Nat} {d : D} (h : ((List.range n).map f)[i]? = some d) : i < n ∧ d = f i := by
  have h1 := (List.getElem?_eq_some_iff.mp h).1
  rw [List.length_map, List.length_range] at h1
  rw [List.getElem?_map, List.getElem?_range h1] at h
  exact ⟨h1, by simpa using h.symm⟩
theorem map_at {xs : List Int} {i : Nat} {d : D} (h : (xs.map D.int)[i]? = some d) : i < xs.length ∧ d = .int (xs.getD i 0) := by
  have h1 := (List.getElem?_eq_some_iff.mp h).1
  rw [List.length_map] at h1
  rw [List.getElem?_map, getD_of h1] at h
  exact ⟨h1, by simpa using h.symm⟩
theorem len_rng {n : Nat} {f : Nat → D} : ((List.range n).map f).length = n := by rw [List.length_map, List.length_range]
theorem cut_pre (h0 : 0 ≤ i) : cutD (xs.map D.int) none (some i) = (xs.take i.toNat).map D.int := by
  unfold cutD HT.sIx
  simp only [List.drop_zero, Nat.sub_zero, List.length_map]
  rw [if_neg (by omega)]
  rw [← List.map_take]
  congr 1
  rw [List.take_eq_take_iff]
  omega
theorem cut_post (h0 : 0 ≤ i) : cutD (xs.map D.int) (some i) none = (xs.drop i.toNat).map D.int := by
  unfold cutD HT.sIx
  simp only [List.length_map]
  rw [if_neg (by omega), ← List.map_drop, List.take_of_length_le (by rw [List.length_map, List.length_drop]; omega)]
  by_cases h : i.toNat ≤ xs.length
  · rw [Nat.min_eq_left h]
  · rw [Nat.min_eq_right (by omega), List.drop_eq_nil_of_le (by omega), List.drop_eq_nil_of_le (by omega)]
theorem cut_mid (h0 : 0 ≤ i) (h1 : i ≤ j) (h2 : i ≤ xs.length) : cutD (xs.map D.int) (some i) (some j) = ((xs.drop i.toNat).take (j - i).toNat).map D.int := by
  unfold cutD HT.sIx
  simp only [List.length_map]
  rw [if_neg (by omega), if_neg (by omega), ← List.map_drop, ← List.map_take]
  have e : min i.toNat xs.length = i.toNat := by omega
  rw [e]
  congr 1
  rw [List.take_eq_take_iff, List.length_drop]
  omega
theorem slG_pre (h0 : 0 ≤ i) : slG (T xs) none (some i) M Q = Q (T (xs.take i.toNat)) M := by
  unfold T slG
  simp only
  rw [cut_pre h0]
theorem slG_post (h0 : 0 ≤ i) : slG (T xs) (some i) none M Q = Q (T (xs.drop i.toNat)) M := by
  unfold T slG
  simp only
  rw [cut_post h0]
theorem slG_mid (h0 : 0 ≤ i) (h1 : i ≤ j) (h2 : i ≤ xs.length) : slG (T xs) (some i) (some j) M Q = Q (T ((xs.drop i.toNat).take (j - i).toNat)) M := by
  unfold T slG
  simp only
  rw [cut_mid h0 h1 h2]
theorem itemsOf_T : itemsOf (T xs) M = some (xs.map D.int) := rfl
theorem keepOf_T {its : List D} : keepOf (T xs) its = fun _ => True := rfl
theorem tup_T : D.tup [] = T [] := rfl
theorem tup_T1 : D.tup [.int i] = T [i] := rfl
theorem tupG_T : tupG [T xs] M Q = Q (T xs) M := rfl
/-- a field of an instance that is known -/
theorem fld_at {K : PySem.W.Frag} {a C : Addr} {fs : List (Str × D)} {f : Str} {v : D} (hM : M a = some (.ins C fs)) (hk : FldK K C f) (hl : fs.lookup f = some v) :
    (match M a with
    | some (.ins C fs) => FldK K C f ∧ match fs.lookup f with
      | some v => Q v M
      | none => False
    | _ => False) = Q v M := by
  rw [hM]
  simp only [hl, hk, true_and]
/-- lists of ints -/
theorem seqOf_lst {a : Addr} {ds : List D} (h : M a = some (.lst ds)) : seqOf M a = some ds := by unfold seqOf; rw [h]
theorem seqOf_rol {a : Addr} {ds : List D} (h : M a = some (.rol ds)) : seqOf M a = some ds := by unfold seqOf; rw [h]
theorem lenG_ref {a : Addr} {ds : List D} (h : seqOf M a = some ds) : lenG [.ref a] M Q = Q (.int ds.length) M := by
  unfold seqOf at h
  unfold lenG lenD
  cases e : M a with
  | none => rw [e] at h; cases h
  | some o =>
    rw [e] at h
    cases o <;> first | (cases h; simp only [e]) | cases h
theorem ixG_ref {a : Addr} {ns : List Int} (h : seqOf M a = some (ns.map D.int)) (h0 : 0 ≤ i) (h1 : i < ns.length) : ixG (.ref a) (.int i) M Q = Q (.int (ns.getD i.toNat 0)) M := by
  unfold ixG
  simp only
  rw [h]
  simp only [Option.bind_some]
  rw [atI_T h0 h1]
theorem blsOf_range {n : Nat} {f : Nat → Bool} : blsOf (((List.range n).map f).map D.bl) = some ((List.range n).map f) := blsOf_map _
theorem addD_int : addD (.int i) (.int j) M Q = Q (.int (i + j)) M := rfl
theorem mulD_int : mulD (.int i) (.int j) M Q = (CMulX i j ∧ Q (.int (i * j)) M) := rfl
theorem mulD_ref {a : Addr} {ns : List Int} {k : Int} (h : M a = some (.lst (ns.map D.int))) : mulD (.ref a) (.int k) M Q = ((-(2 ^ 63) ≤ k ∧ k < 2 ^ 63 ∧ ns.length * k.toNat ≤ sizeLine) ∧ ∀ p, M p = none → Q (.ref p) (put M p (.lst ((List.replicate k.toNat ns).flatten.map D.int)))) := by
  unfold mulD
  simp only [h, List.length_map, List.map_flatten, List.map_replicate]
theorem addD_ref {a b : Addr} {ns ms : List Int} (h : M a = some (.lst (ns.map D.int))) (h' : M b = some (.lst (ms.map D.int))) : addD (.ref a) (.ref b) M Q = (ns.length + ms.length ≤ sizeLine ∧ ∀ p, M p = none → Q (.ref p) (put M p (.lst ((ns ++ ms).map D.int)))) := by
  unfold addD
  simp only [h, h', List.length_map, List.map_append]
theorem slG_rpre {a : Addr} {ns : List Int} (h : seqOf M a = some (ns.map D.int)) (h0 : 0 ≤ i) : slG (.ref a) none (some i) M Q = ∀ p, M p = none → Q (.ref p) (put M p (.lst ((ns.take i.toNat).map D.int))) := by
  unfold slG
  simp only [h]
  rw [cut_pre h0]
theorem slG_rpost {a : Addr} {ns : List Int} (h : seqOf M a = some (ns.map D.int)) (h0 : 0 ≤ i) : slG (.ref a) (some i) none M Q = ∀ p, M p = none → Q (.ref p) (put M p (.lst ((ns.drop i.toNat).map D.int))) := by
  unfold slG
  simp only [h]
  rw [cut_post h0]
theorem tupG_ref {a : Addr} {ns : List Int} (h : seqOf M a = some (ns.map D.int)) : tupG [.ref a] M Q = Q (T ns) M := by
  simp only [tupG, h]
  rfl
theorem lstG_T : lstG [T xs] M Q = ∀ p, M p = none → Q (.ref p) (put M p (.lst (xs.map D.int))) := rfl
theorem sub_put {M : Mp} {p : Addr} {o : MO} (h : M p = none) : Sub M (DL.put M p o) := Sub.refl.put h
/-- while by a variant -/
theorem dWh_inv {c : DT} {tb : DS} {Dn : DN} (I : Nat → Sl → Mp → Prop)
    (step : ∀ (n : Nat) (τ : Sl) (M : Mp) (nxt : Sl → Mp → Prop), I n τ M → (∀ m, n = m + 1 → ∀ τ' M', I m τ' M' → nxt τ' M') →
      c τ M (fun b M1 => if b = true then tb { Dn with nx := nxt, ct := nxt, bk := Dn.nx } τ M1 else Dn.nx τ M1) (exOf Dn τ)) {n : Nat} {τ : Sl} {M : Mp} (h : I n τ M) : dWhile c tb Dn τ M := by
  refine ⟨n + 1, ?_⟩
  have go : ∀ (n : Nat) (τ : Sl) (M : Mp), I n τ M → dWhN c tb (n + 1) Dn τ M := by
    intro n
    induction n with
    | zero => exact fun τ M h => step 0 τ M _ h fun m e => by omega
    | succ n ih =>
      intro τ M h
      refine step (n + 1) τ M _ h fun m e τ' M' h' => ?_
      have : m = n := by omega
      subst this
      exact ih τ' M' h'
  exact go n τ M h
end DL

set_option maxHeartbeats 4000000
namespace DL
open PySem L2
/-! ### a list of the module's own: it is read in every heap -/
def KL (K : PySem.W.Frag) (a : Addr) (ns : List Int) : Prop := ∀ H, SqL K H a (ns.map V.int)
def lenK (K : PySem.W.Frag) : DG := fun ds M Q => match ds with
  | [.ref a] => ∃ ns, KL K a ns ∧ Q (.int ((ns.length : Nat) : Int)) M
  | _ => False
def ixK (K : PySem.W.Frag) : DO := fun x y M Q => match x, y with
  | .ref a, .int i => ∃ ns, KL K a ns ∧ 0 ≤ i ∧ i < ns.length ∧ Q (.int (ns.getD i.toNat 0)) M
  | _, _ => False
def lstK (K : PySem.W.Frag) : DG := fun ds M Q => match ds with
  | [.ref a] => ∃ ns : List Int, KL K a ns ∧ ∀ p, M p = none → Q (.ref p) (put M p (.lst (ns.map D.int)))
  | _ => False
section
variable {X : Cx}
theorem call_lenK : CallR X (.builtin "len") (liftC X.K (lenK X.K)) := CallRimp call_len fun xs H Q ⟨ds, M, Qd, q, r, hr, k⟩ => by
  unfold lenK at q
  split at q
  · obtain ⟨ns, h, q⟩ := q
    obtain ⟨v, rfl, rv⟩ := r.one
    rw [rv.toRef]
    exact ⟨_, ns.length, rfl, .inl ⟨_, h H, (List.length_map ..).symm⟩, k _ M _ H q .refl (.int _) hr⟩
  · exact q.elim
theorem ix_K : IxR X (liftO X.K (ixK X.K)) := IxRimp ix_seq fun x y H Q ⟨dx, dy, M, Qd, q, a, b, c, k⟩ => by
  unfold ixK at q
  split at q
  · obtain ⟨ns, h, h0, h1, q⟩ := q
    refine .inl ⟨_, _, _, .int (ns.getD _ 0), a.toRef, b.toInt, h H, ?_, k _ M _ H q .refl (.int _) c⟩
    unfold atI
    rw [List.length_map, ixN_in h0 h1, Option.bind_some, List.getElem?_map, getD_of (by omega)]
    rfl
  · exact q.elim
theorem call_lstK : CallR X (.type "list") (liftC X.K (lstK X.K)) := CallRimp call_list_of fun xs H Q ⟨ds, M, Qd, q, r, hr, k⟩ => by
  unfold lstK at q
  split at q
  · obtain ⟨ns, h, q⟩ := q
    obtain ⟨v, rfl, rv⟩ := r.one
    rw [rv.toRef]
    exact ⟨_, _, rfl, .inl (h H), fun p hp => k.lst hr RpL.ofInts hp q⟩
  · exact q.elim
end
section
variable {P : Program} {w : World} {K : PySem.W.Frag} {mg : Str → Option Value} {base : Heap}
/-- a def with defaults -/
theorem okDf {x qual : Str} {st : Stmt} {f : Addr} {fd : FuncData} {N ps : List Str} {k : Nat} {sp : DSp} {dvs : List V} {kws : List (Str × V)} (F : FunD K x qual (defArgs st) (defBody st) (defScope st) dvs kws f fd) (S : FnScope N ps (defScope st)) (len : ∀ ds M Q E, sp ds M Q E → ds.length = ps.length)
    (hbody : ∀ (cdv : Value) (A : Around) (outer : List Env) (s : Shared) (H : Hp) (E : XK), Room k (A.deeper (PyProof.Rows.envOfC qual (defScope st) s.heap.objs.size f cdv)) →
      Takes (cxOf (L2.CX P w) P w K mg base N qual (defScope st) f cdv A outer s H E) (liftW K (defW K H E)) →
      ∃ t, PSsD (cxOf (L2.CX P w) P w K mg base N qual (defScope st) f cdv A outer s H E) (defW K H E) (defBody st) t ∧ ∀ ds M Q E', sp ds M Q E' → t (ends Q E') (dstart N ds) M) :
    FnOk P w K mg base (L2.CX P w) (k + 1) f fd ps (liftSp K sp) := by
  refine F.ok S (fun vs H Q E ⟨ds, M, Qd, Ed, hsp, r, _⟩ => r.length.trans (len ds M Qd Ed hsp)) fun cdv A outer s H vs Q E hr ⟨ds, M, Qd, Ed, hsp, r, hr', kc, xc⟩ => ?_
  obtain ⟨t, ht, q⟩ := hbody cdv A outer s H E hr (Takes.imp (takes_of rfl rfl rfl rfl) fun c d σ H' ⟨x, τ, M', rs, h2, xr, hw⟩ => hw H' c d rs.ext xr h2)
  refine ⟨_, ht.run, dstart N ds, M, ends Qd Ed, rs_start r, hr', q ds M Qd Ed hsp, fun x τ M' ⟨M0, sb, h⟩ H' cls d e xr h2 => xc x M0 cls d H' h e xr (h2.sub sb), ?_⟩
  exact ⟨fun τ M' σ H' ⟨M0, sb, h⟩ e _ h2 => kc _ M0 _ H' h e .non (h2.sub sb), fun d M' v H' ⟨M0, sb, h⟩ e rv h2 => kc d M0 v H' h e rv (h2.sub sb), fun _ _ _ _ z => z.elim, fun _ _ _ _ z => z.elim⟩
/-- one of two promises -/
theorem fnOk_or {k : Nat} {f : Addr} {fd : FuncData} {ps : List Str} {sp1 sp2 sp : DSp} (F1 : FnOk P w K mg base (L2.CX P w) k f fd ps (liftSp K sp1)) (F2 : FnOk P w K mg base (L2.CX P w) k f fd ps (liftSp K sp2))
    (h : ∀ ds M Q E, sp ds M Q E → sp1 ds M Q E ∨ sp2 ds M Q E) : FnOk P w K mg base (L2.CX P w) k f fd ps (liftSp K sp) :=
  ⟨fun vs H Q E ⟨ds, M, Qd, Ed, q, r⟩ => (h _ _ _ _ q).elim (fun q => F1.len vs H Q E ⟨ds, M, Qd, Ed, q, r⟩) fun q => F2.len vs H Q E ⟨ds, M, Qd, Ed, q, r⟩,
   fun A outer s H args us vs Q E hr he hb hv ⟨ds, M, Qd, Ed, q, r⟩ => (h _ _ _ _ q).elim (fun q => F1.run A outer s H args us vs Q E hr he hb hv ⟨ds, M, Qd, Ed, q, r⟩) fun q => F2.run A outer s H args us vs Q E hr he hb hv ⟨ds, M, Qd, Ed, q, r⟩⟩
theorem fnOk_no {k : Nat} {f : Addr} {fd : FuncData} {ps : List Str} : FnOk P w K mg base (L2.CX P w) k f fd ps (liftSp K fun _ _ _ _ => False) :=
  ⟨fun vs H Q E ⟨ds, M, Qd, Ed, q, r⟩ => q.elim, fun A outer s H args us vs Q E hr he hb hv ⟨ds, M, Qd, Ed, q, r⟩ => q.elim⟩
end
/-! ### classes by their facts -/
theorem kitCls_of {K : PySem.W.Frag} {t : Value} {C : Addr} {b : Bool} (h1 : PySem.W.isClsIn K C = true) (h2 : PySem.W.typeIn K (.ref C) = some (.type "type")) (h3 : PySem.W.subIn K t (.ref C) = some b) : PySem.W.kitCls K t (.ref C) = some b := by
  have e2 : ((PySem.W.clsIn K C).isSome && PySem.W.typeIn K (.ref C) == some (.type "type")) = true := by
    have h1' : (PySem.W.clsIn K C).isSome = true := h1
    rw [h1', h2]
    rfl
  unfold PySem.W.kitCls
  simp only [e2, if_true]
  exact h3
theorem kit_ne {K : PySem.W.Frag} {a C : Addr} {b : Bool} (hn : (a == C) = false) (h1 : PySem.W.isClsIn K C = true) (h2 : PySem.W.typeIn K (.ref C) = some (.type "type")) (h3 : PySem.W.subIn K (.ref a) (.ref C) = some b) : PySem.W.kitOne K (.ref a) (.ref C) = some b := by
  have e : (Value.ref a == Value.ref C) = false := beq_eq_false_iff_ne.mpr fun e => by
    cases e
    rw [beq_self_eq_true] at hn
    cases hn
  unfold PySem.W.kitOne
  rw [if_neg (by rw [e]; exact Bool.false_ne_true)]
  exact kitCls_of h1 h2 h3
theorem kit_self {K : PySem.W.Frag} {a : Addr} : PySem.W.kitOne K (.ref a) (.ref a) = some true := by
  have e : (Value.ref a == Value.ref a) = true := beq_self_eq_true (Value.ref a)
  unfold PySem.W.kitOne
  rw [if_pos e]
theorem kit_bt {K : PySem.W.Frag} {a : Addr} {n : String} {b : Bool} (hm : PySem.W.kitMeta n = true) (h : PySem.W.subIn K (.ref a) (.type n) = some b) : PySem.W.kitOne K (.ref a) (.type n) = some b := by
  unfold PySem.W.kitOne
  have e : (Value.ref a == Value.type n) = false := beq_eq_false_iff_ne.mpr fun e => by cases e
  rw [if_neg (by rw [e]; exact Bool.false_ne_true)]
  unfold PySem.W.kitCls
  simp only [hm, if_true]
  exact h
theorem exm_sub {K : PySem.W.Frag} {t : Value} {C : Addr} {b : Bool} (h0 : PySem.W.subIn K (.ref C) (.type "BaseException") = some true) (h1 : PySem.W.isClsIn K C = true) (h2 : PySem.W.typeIn K (.ref C) = some (.type "type")) (h3 : PySem.W.subIn K t (.ref C) = some b) : PySem.W.exmOne K t (.ref C) = some b := by
  unfold PySem.W.exmOne
  rw [if_pos (by rw [h0]; rfl)]
  exact kitCls_of h1 h2 h3
theorem meta_VE : PySem.W.kitMeta "ValueError" = true := by decide +kernel
/-! ### the end of a law of a script -/
/-- what law(script) promises -/
def spScript (K : PySem.W.Frag) : DSp := fun ds M Q _ => ∃ (a : Addr) (ns : List Int), ds = [.ref a] ∧ (M a = some (.rol (ns.map D.int)) ∨ KL K a ns) ∧ ns.length ≤ 100000 ∧ (∀ z ∈ ns, Builtin.Int.intBits z ≤ 1048576) ∧ ∀ M1, Q (.bl true) M1
theorem walkD {l : PySem.W.OpenLaw} {n k : Nat} {q : Program} {loose : List Str} {XP : (Str → Option Value) → Heap → Prop} {YP : World → Heap → Prop} {d : DefRec} {K : Params → PySem.W.Frag} {x : Str} (hn : l.most = some n) (hn2 : n ≤ 100000) (hdf : d.params.defaults = []) (hr : Room k callerA)
    (hY : ∀ (w : World) (h : Heap), YP w h → (K w.params).In h)
    (F : ∀ (w : World) (mg : Str → Option Value) (fa : Addr) (h : Heap), (K w.params).In h → h.Ns mainGlobals mg → mg d.name = some (.ref fa) →
      ∃ fd : FuncData, (∀ (s : Shared) (u : Value), BindsTo s fd ⟨[u], []⟩ [(x, u)]) ∧ ∀ base : Heap, (K w.params).In base → base.Ns mainGlobals mg → FnOk l.prog w (K w.params) mg base (L2.CX l.prog w) k fa fd [x] (liftSp (K w.params) (spScript (K w.params)))) :
    PySem.W.WalkO q loose XP YP l.row.toRowW d [] (fun f vs => PySem.call f vs) :=
  L2.walk_ofB (n := n) (k := k) (x := x) (CX := fun w => L2.CX l.prog w) (sp := fun w => liftSp (K w.params) (spScript (K w.params))) hn (Nat.le_trans hn2 (by rw [PySem.sizeLine_eq]; omega)) hdf hr hY F
    (fun w H a ns hl hbits hO hS => by
      have fin : ∀ M, HR (K w.params) H M → (M a = some (.rol (ns.map D.int)) ∨ KL (K w.params) a ns) → liftSp (K w.params) (spScript (K w.params)) [.ref a] H (fun v _ => v = .bl true) fun _ _ _ => False := fun M hr hM =>
        ⟨[.ref a], M, fun d _ => d = .bl true, fun _ _ => False, ⟨a, ns, rfl, hM, Nat.le_trans hl hn2, hbits, fun _ => rfl⟩, .cons (.ref a) .nil, hr, fun d M' v H' e _ rv _ => by subst e; exact rv.toBl, fun _ _ _ _ _ h => h.elim⟩
      rcases hS with (h | ⟨o, h⟩) | h
      · rcases hO a with e | ⟨o, xs, e⟩
        · rw [e] at h; cases h
        · rw [e] at h; cases h
      · refine fin (fun b => if b = a then some (.rol (ns.map D.int)) else none) (fun b u e => ?_) (.inl (if_pos rfl))
        have e : (if b = a then some (MO.rol (ns.map D.int)) else none) = some u := e
        by_cases c : b = a
        · subst c
          rw [if_pos rfl] at e
          cases e
          exact ⟨o, _, h, RpL.ofInts⟩
        · rw [if_neg c] at e
          cases e
      · exact fin (fun _ => none) (fun b u e => by cases e) (.inr fun H' => .inr h))
    fun w H s e s' h => by
      obtain ⟨_, _, _, _, _, _, _, _, _, _, _, _, h⟩ := h
      exact h
end DL

set_option maxHeartbeats 4000000
namespace K55
open PySem L2 DL
/-! ### the text by places -/
def top (i : Nat) : Stmt := PySem.Challenge.pw_proofchoosers_k55_endless_rows_in_least.main.body.getD i (.Pass ⟨0, 0, 0, 0⟩)
/-- the addresses of the classes -/
structure Adr where
  (ProofsError InvalidTerm OutOfRange SizeMismatch TooLarge Row : Addr)
/-- what the written part says of the names -/
structure Txt (K : PySem.W.Frag) (mg : Str → Option Value) (A : Adr) : Prop where
  n_ValueError : mg "ValueError" = none
  n_all : mg "all" = none
  n_bool : mg "bool" = none
  n_int : mg "int" = none
  n_isinstance : mg "isinstance" = none
  n_len : mg "len" = none
  n_list : mg "list" = none
  n_max : mg "max" = none
  n_min : mg "min" = none
  n_range : mg "range" = none
  n_str : mg "str" = none
  n_tuple : mg "tuple" = none
  m_ProofsError : mg "ProofsError" = some (.ref A.ProofsError)
  m_InvalidTerm : mg "InvalidTerm" = some (.ref A.InvalidTerm)
  m_OutOfRange : mg "OutOfRange" = some (.ref A.OutOfRange)
  m_SizeMismatch : mg "SizeMismatch" = some (.ref A.SizeMismatch)
  m_TooLarge : mg "TooLarge" = some (.ref A.TooLarge)
  x_OutOfRange : ExcK K mg "OutOfRange" A.OutOfRange
  m_Row : mg "Row" = some (.ref A.Row)
  i_Row : InsK K A.Row
  d_Row_head : FldK K A.Row "head"
  d_Row_cycle : FldK K A.Row "cycle"
  f_Row_getitem : ∀ f, PySem.W.findIn K (.ref A.Row) "__getitem__" = some (some (.ref f)) → PySem.W.fnIn K f = true
  k_row : PySem.W.kitOne K (.ref A.Row) (.ref A.Row) = some true
  k_sm : PySem.W.kitOne K (.ref A.OutOfRange) (.ref A.SizeMismatch) = some false
  k_tl : PySem.W.kitOne K (.ref A.OutOfRange) (.ref A.TooLarge) = some false
  k_it : PySem.W.kitOne K (.ref A.OutOfRange) (.ref A.InvalidTerm) = some false
  k_or : PySem.W.kitOne K (.ref A.OutOfRange) (.ref A.OutOfRange) = some true
  k_ve : PySem.W.kitOne K (.ref A.OutOfRange) (.type "ValueError") = some true
  c_or : ExcC K A.OutOfRange
  e_or : PySem.W.exmOne K (.ref A.OutOfRange) (.ref A.ProofsError) = some true
abbrev s_shortest_cycle : Stmt := top 7
abbrev N_shortest_cycle : List Str := ["cycle", "size"]
abbrev P_shortest_cycle : List Str := ["cycle"]
theorem sc_shortest_cycle : FnScope N_shortest_cycle P_shortest_cycle (defScope s_shortest_cycle) := C8.fnScope_by (by decide +kernel)
abbrev s_turned : Stmt := top 8
abbrev N_turned : List Str := ["cycle", "count", "start"]
abbrev P_turned : List Str := ["cycle", "count"]
theorem sc_turned : FnScope N_turned P_turned (defScope s_turned) := C8.fnScope_by (by decide +kernel)
abbrev s_loose_entries : Stmt := top 9
abbrev N_loose_entries : List Str := ["head", "cycle", "count"]
abbrev P_loose_entries : List Str := ["head", "cycle"]
theorem sc_loose_entries : FnScope N_loose_entries P_loose_entries (defScope s_loose_entries) := C8.fnScope_by (by decide +kernel)
abbrev s_Row_init : Stmt := inClass (top 10) 0
abbrev N_Row_init : List Str := ["self", "head", "cycle", "entry"]
abbrev P_Row_init : List Str := ["self", "head", "cycle"]
theorem sc_Row_init : FnScope N_Row_init P_Row_init (defScope s_Row_init) := C8.fnScope_by (by decide +kernel)
abbrev s_Row_getitem : Stmt := inClass (top 10) 1
abbrev N_Row_getitem : List Str := ["self", "place"]
abbrev P_Row_getitem : List Str := ["self", "place"]
theorem sc_Row_getitem : FnScope N_Row_getitem P_Row_getitem (defScope s_Row_getitem) := C8.fnScope_by (by decide +kernel)
abbrev s_Row_start : Stmt := inClass (top 10) 3
abbrev N_Row_start : List Str := ["self", "length", "place"]
abbrev P_Row_start : List Str := ["self", "length"]
theorem sc_Row_start : FnScope N_Row_start P_Row_start (defScope s_Row_start) := C8.fnScope_by (by decide +kernel)
abbrev s_Row_least : Stmt := inClass (top 10) 4
abbrev N_Row_least : List Str := ["self", "cycle", "count"]
abbrev P_Row_least : List Str := ["self"]
theorem sc_Row_least : FnScope N_Row_least P_Row_least (defScope s_Row_least) := C8.fnScope_by (by decide +kernel)
abbrev s_Row_after : Stmt := inClass (top 10) 5
abbrev N_Row_after : List Str := ["self", "count"]
abbrev P_Row_after : List Str := ["self", "count"]
theorem sc_Row_after : FnScope N_Row_after P_Row_after (defScope s_Row_after) := C8.fnScope_by (by decide +kernel)
abbrev s_same_rows : Stmt := top 11
abbrev N_same_rows : List Str := ["first", "second", "one", "other"]
abbrev P_same_rows : List Str := ["first", "second"]
theorem sc_same_rows : FnScope N_same_rows P_same_rows (defScope s_same_rows) := C8.fnScope_by (by decide +kernel)
abbrev s_law_start : Stmt := top 13
abbrev N_law_start : List Str := ["script", "seed", "k"]
abbrev P_law_start : List Str := ["script"]
theorem sc_law_start : FnScope N_law_start P_law_start (defScope s_law_start) := C8.fnScope_by (by decide +kernel)
abbrev s_law_pick : Stmt := top 14
abbrev N_law_pick : List Str := ["state", "limit", "rest", "cell", "mixed"]
abbrev P_law_pick : List Str := ["state", "limit"]
theorem sc_law_pick : FnScope N_law_pick P_law_pick (defScope s_law_pick) := C8.fnScope_by (by decide +kernel)
abbrev s_law_same : Stmt := top 15
abbrev N_law_same : List Str := ["actual", "due", "p"]
abbrev P_law_same : List Str := ["actual", "due"]
theorem sc_law_same : FnScope N_law_same P_law_same (defScope s_law_same) := C8.fnScope_by (by decide +kernel)
abbrev s_law_at : Stmt := top 16
abbrev N_law_at : List Str := ["head", "cycle", "place"]
abbrev P_law_at : List Str := ["head", "cycle", "place"]
theorem sc_law_at : FnScope N_law_at P_law_at (defScope s_law_at) := C8.fnScope_by (by decide +kernel)
abbrev s_law_least : Stmt := top 17
abbrev N_law_least : List Str := ["head", "cycle", "many", "size", "k", "entries", "keep", "p"]
abbrev P_law_least : List Str := ["head", "cycle"]
theorem sc_law_least : FnScope N_law_least P_law_least (defScope s_law_least) := C8.fnScope_by (by decide +kernel)
abbrev s_law_behind : Stmt := top 18
abbrev N_law_behind : List Str := ["head", "cycle", "count", "left", "first", "rest", "p"]
abbrev P_law_behind : List Str := ["head", "cycle", "count"]
theorem sc_law_behind : FnScope N_law_behind P_law_behind (defScope s_law_behind) := C8.fnScope_by (by decide +kernel)
abbrev s_law_is_row : Stmt := top 19
abbrev N_law_is_row : List Str := ["actual", "due"]
abbrev P_law_is_row : List Str := ["actual", "due"]
theorem sc_law_is_row : FnScope N_law_is_row P_law_is_row (defScope s_law_is_row) := C8.fnScope_by (by decide +kernel)
abbrev s_law_row : Stmt := top 20
abbrev N_law_row : List Str := ["state", "top", "block", "cycle", "at", "head", "back", "more", "k"]
abbrev P_law_row : List Str := ["state"]
theorem sc_law_row : FnScope N_law_row P_law_row (defScope s_law_row) := C8.fnScope_by (by decide +kernel)
abbrev s_law_other : Stmt := top 21
abbrev N_law_other : List Str := ["state", "head", "cycle", "turn", "again"]
abbrev P_law_other : List Str := ["state", "head", "cycle"]
theorem sc_law_other : FnScope N_law_other P_law_other (defScope s_law_other) := C8.fnScope_by (by decide +kernel)
abbrev s_law_bent : Stmt := top 22
abbrev N_law_bent : List Str := ["state", "head", "cycle", "top", "at", "entries"]
abbrev P_law_bent : List Str := ["state", "head", "cycle", "top"]
theorem sc_law_bent : FnScope N_law_bent P_law_bent (defScope s_law_bent) := C8.fnScope_by (by decide +kernel)
abbrev s_law_asked : Stmt := top 23
abbrev N_law_asked : List Str := ["way", "row", "number", "head", "cycle", "e", "other"]
abbrev P_law_asked : List Str := ["way", "row", "number", "head", "cycle"]
theorem sc_law_asked : FnScope N_law_asked P_law_asked (defScope s_law_asked) := C8.fnScope_by (by decide +kernel)
abbrev s_law_refusals : Stmt := top 24
abbrev N_law_refusals : List Str := ["state", "row", "head", "cycle", "refused", "below", "way", "spot", "entries", "first", "rest", "pair"]
abbrev P_law_refusals : List Str := ["state", "row", "head", "cycle"]
theorem sc_law_refusals : FnScope N_law_refusals P_law_refusals (defScope s_law_refusals) := C8.fnScope_by (by decide +kernel)
abbrev s_law_entries : Stmt := top 25
abbrev N_law_entries : List Str := ["state", "row", "head", "cycle", "turn", "place", "counts", "count", "after", "length", "p"]
abbrev P_law_entries : List Str := ["state", "row", "head", "cycle"]
theorem sc_law_entries : FnScope N_law_entries P_law_entries (defScope s_law_entries) := C8.fnScope_by (by decide +kernel)
abbrev s_law : Stmt := top 26
abbrev N_law : List Str := ["script", "state", "head", "cycle", "top", "more", "again", "first", "rest", "at", "row", "other", "bent", "due", "plain"]
abbrev P_law : List Str := ["script"]
theorem sc_law : FnScope N_law P_law (defScope s_law) := C8.fnScope_by (by decide +kernel)
end K55

set_option maxHeartbeats 4000000
namespace K55
/-! ### the mathematics: rows in their least form -/
def cyc (c : List Int) (i : Int) : Int := c.getD (i % (c.length : Int)).toNat 0
def rowAt (h c : List Int) (p : Nat) : Int := if p < h.length then h.getD p 0 else c.getD ((p - h.length) % c.length) 0
/-- s is a period of the cycle -/
def IsP (c : List Int) (s : Nat) : Prop := c.length % s = 0 ∧ ∀ i, i < c.length → c.getD i 0 = c.getD (i % s) 0
instance (c : List Int) (s : Nat) : Decidable (IsP c s) := by unfold IsP; infer_instance
def per (c : List Int) : Nat := ((List.range' 1 c.length).find? fun s => decide (IsP c s)).getD c.length
theorem isP_len {c : List Int} : IsP c c.length := ⟨Nat.mod_self _, fun i hi => by rw [Nat.mod_eq_of_lt hi]⟩
theorem per_spec {c : List Int} (h : c ≠ []) : 1 ≤ per c ∧ per c ≤ c.length ∧ IsP c (per c) ∧ ∀ k, 1 ≤ k → IsP c k → per c ≤ k := by
  have h1 : 1 ≤ c.length := List.length_pos_iff.mpr h
  unfold per
  cases e : (List.range' 1 c.length).find? fun s => decide (IsP c s) with
  | none =>
    have := List.find?_eq_none.mp e c.length (by rw [List.mem_range'_1]; omega)
    exact absurd isP_len (by simpa using this)
  | some s =>
    have hp : IsP c s := by simpa using List.find?_some e
    have hm := List.mem_of_find?_eq_some e
    rw [List.mem_range'_1] at hm
    refine ⟨hm.1, by simp only [Option.getD_some]; omega, hp, fun k hk1 hk => ?_⟩
    show s ≤ k
    by_cases hle : c.length < k
    · omega
    · obtain ⟨_, as, bs, e1, hno⟩ := List.find?_eq_some_iff_append.mp e
      by_cases hks : s ≤ k
      · exact hks
      · have hmem : k ∈ List.range' 1 c.length := by rw [List.mem_range'_1]; omega
        have hsorted : (List.range' 1 c.length).Pairwise (· < ·) := List.pairwise_lt_range'
        rw [e1] at hmem hsorted
        rcases List.mem_append.mp hmem with hm | hm
        · exact absurd hk (by simpa using hno k hm)
        · rcases List.mem_cons.mp hm with rfl | hm
          · omega
          · have := (List.pairwise_cons.mp (List.pairwise_append.mp hsorted).2.1).1 k hm
            omega
def shortest (c : List Int) : List Int := c.take (per c)
def turnedL (c : List Int) (n : Int) : List Int := c.drop (n % (c.length : Int)).toNat ++ c.take (n % (c.length : Int)).toNat
def loN (h c : List Int) : Nat := ((List.range h.length).find? fun j => decide (h.getD (h.length - 1 - j) 0 ≠ cyc c (-1 - (j : Int)))).getD h.length
theorem loN_spec (h c : List Int) : loN h c ≤ h.length ∧ (∀ j, j < loN h c → h.getD (h.length - 1 - j) 0 = cyc c (-1 - (j : Int))) ∧ (loN h c < h.length → h.getD (h.length - 1 - loN h c) 0 ≠ cyc c (-1 - (loN h c : Int))) := by
  unfold loN
  cases e : (List.range h.length).find? fun j => decide (h.getD (h.length - 1 - j) 0 ≠ cyc c (-1 - (j : Int))) with
  | none =>
    refine ⟨Nat.le_refl _, fun j hj => ?_, fun hl => absurd hl (Nat.lt_irrefl _)⟩
    have := List.find?_eq_none.mp e j (List.mem_range.mpr hj)
    simpa using this
  | some s =>
    have hm := List.mem_range.mp (List.mem_of_find?_eq_some e)
    have hp : h.getD (h.length - 1 - s) 0 ≠ cyc c (-1 - (s : Int)) := by simpa using List.find?_some e
    refine ⟨Nat.le_of_lt hm, fun j hj => ?_, fun _ => hp⟩
    obtain ⟨_, as, bs, e1, hno⟩ := List.find?_eq_some_iff_append.mp e
    have hj' : j < s := hj
    have hsorted : (List.range h.length).Pairwise (· < ·) := List.pairwise_lt_range
    have hmem : j ∈ List.range h.length := List.mem_range.mpr (by omega)
    rw [e1] at hmem hsorted
    rcases List.mem_append.mp hmem with hq | hq
    · simpa using hno j hq
    · rcases List.mem_cons.mp hq with rfl | hq
      · omega
      · have := (List.pairwise_cons.mp (List.pairwise_append.mp hsorted).2.1).1 j hq
        omega
def pl (h c : List Int) : List Int × List Int := (h.take (h.length - loN h (shortest c)), turnedL (shortest c) (-(loN h (shortest c) : Int)))

theorem shortest_length {c : List Int} (h : c ≠ []) : (shortest c).length = per c := by
  unfold shortest
  rw [List.length_take]
  have := (per_spec h).2.1
  omega
theorem shortest_ne {c : List Int} (h : c ≠ []) : shortest c ≠ [] := by
  intro e
  have := shortest_length h
  rw [e] at this
  have := (per_spec h).1
  simp at *
  omega
theorem turnedL_length {c : List Int} {n : Int} : (turnedL c n).length = c.length := by
  unfold turnedL
  by_cases h : c = []
  · subst h; simp
  · have : 0 < c.length := List.length_pos_iff.mpr h
    have h1 := Int.emod_lt_of_pos n (show (0 : Int) < c.length by omega)
    have h2 := Int.emod_nonneg n (show (c.length : Int) ≠ 0 by omega)
    rw [List.length_append, List.length_drop, List.length_take]
    omega
theorem getD_append_l {a b : List Int} {i : Nat} (h : i < a.length) : (a ++ b).getD i 0 = a.getD i 0 := by
  rw [List.getD_eq_getElem?_getD, List.getD_eq_getElem?_getD, List.getElem?_append_left h]
theorem getD_append_r {a b : List Int} {i : Nat} (h : a.length ≤ i) : (a ++ b).getD i 0 = b.getD (i - a.length) 0 := by
  rw [List.getD_eq_getElem?_getD, List.getD_eq_getElem?_getD, List.getElem?_append_right h]
theorem getD_take {a : List Int} {i n : Nat} (h : i < n) : (a.take n).getD i 0 = a.getD i 0 := by
  rw [List.getD_eq_getElem?_getD, List.getD_eq_getElem?_getD, List.getElem?_take_of_lt h]
theorem getD_drop {a : List Int} {i n : Nat} : (a.drop n).getD i 0 = a.getD (n + i) 0 := by
  rw [List.getD_eq_getElem?_getD, List.getD_eq_getElem?_getD, List.getElem?_drop]
theorem ext_getD {a b : List Int} (hl : a.length = b.length) (h : ∀ i, i < a.length → a.getD i 0 = b.getD i 0) : a = b := by
  apply List.ext_getElem hl
  intro i h1 h2
  have := h i h1
  rw [List.getD_eq_getElem?_getD, List.getD_eq_getElem?_getD, List.getElem?_eq_getElem h1, List.getElem?_eq_getElem h2] at this
  exact this
/-- the entries of a turned cycle -/
theorem turnedL_get {c : List Int} (h : c ≠ []) (n : Int) {i : Nat} (hi : i < c.length) : (turnedL c n).getD i 0 = cyc c (n + i) := by
  have h0 : 0 < c.length := List.length_pos_iff.mpr h
  have h1 := Int.emod_lt_of_pos n (show (0 : Int) < c.length by omega)
  have h2 := Int.emod_nonneg n (show (c.length : Int) ≠ 0 by omega)
  unfold turnedL cyc
  generalize hm : (n % (c.length : Int)).toNat = m
  have hm' : n % (c.length : Int) = (m : Int) := by omega
  have e : (n + i) % (c.length : Int) = ((m : Int) + i) % (c.length : Int) := by rw [Int.add_emod, hm', ← Int.add_emod_emod]; simp
  rw [e]
  by_cases hc : i < c.length - m
  · rw [getD_append_l (by rw [List.length_drop]; omega), getD_drop]
    have : ((m : Int) + i) % (c.length : Int) = (m : Int) + i := Int.emod_eq_of_lt (by omega) (by omega)
    rw [this]
    rfl
  · rw [getD_append_r (by rw [List.length_drop]; omega), List.length_drop, getD_take (by omega)]
    have : ((m : Int) + i) % (c.length : Int) = (m : Int) + i - c.length := by
      have q : (m : Int) + i = ((m : Int) + i - c.length) + c.length * 1 := by omega
      rw [q, Int.add_mul_emod_self_left, Int.emod_eq_of_lt (by omega) (by omega)]
      omega
    rw [this]
    congr 1
    omega
theorem cyc_nat {c : List Int} (p : Nat) : cyc c (p : Int) = c.getD (p % c.length) 0 := rfl
theorem rowAt_tail {h c : List Int} {p : Nat} (hp : h.length ≤ p) : rowAt h c p = cyc c ((p : Int) - h.length) := by
  unfold rowAt
  rw [if_neg (by omega)]
  have : (p : Int) - h.length = ((p - h.length : Nat) : Int) := by omega
  rw [this, cyc_nat]
theorem rowAt_head {h c : List Int} {p : Nat} (hp : p < h.length) : rowAt h c p = h.getD p 0 := by
  unfold rowAt
  rw [if_pos hp]
theorem cyc_add {c : List Int} (x : Int) (k : Int) : cyc c (x + c.length * k) = cyc c x := by
  unfold cyc
  rw [Int.add_mul_emod_self_left]
/-- the cycle and its shortest part go on alike -/
theorem cyc_shortest {c : List Int} (h : c ≠ []) (x : Int) : cyc (shortest c) x = cyc c x := by
  obtain ⟨h1, h2, ⟨h3, h4⟩, _⟩ := per_spec h
  have hl := shortest_length h
  have h0 : 0 < c.length := List.length_pos_iff.mpr h
  have a1 := Int.emod_lt_of_pos x (show (0 : Int) < c.length by omega)
  have a2 := Int.emod_nonneg x (show (c.length : Int) ≠ 0 by omega)
  have b1 := Int.emod_lt_of_pos x (show (0 : Int) < (per c : Int) by omega)
  have b2 := Int.emod_nonneg x (show (per c : Int) ≠ 0 by omega)
  unfold cyc
  rw [hl]
  unfold shortest
  rw [getD_take (by omega), h4 _ (by omega : (x % (c.length : Int)).toNat < c.length)]
  congr 1
  have hd : (per c : Int) ∣ (c.length : Int) := by
    have : per c ∣ c.length := Nat.dvd_of_mod_eq_zero h3
    exact Int.natCast_dvd_natCast.mpr this
  have e := Int.emod_emod_of_dvd x hd
  have q : (((x % (c.length : Int)).toNat % per c : Nat) : Int) = x % (per c : Int) := by
    rw [Int.natCast_emod, Int.toNat_of_nonneg a2, e]
  omega
/-- the least form has the entries of the row -/
theorem rowAt_pl {h c : List Int} (hc : c ≠ []) (p : Nat) : rowAt (pl h c).1 (pl h c).2 p = rowAt h c p := by
  obtain ⟨n1, n2, n3⟩ := loN_spec h (shortest c)
  have sn := shortest_ne hc
  have s0 : 0 < (shortest c).length := List.length_pos_iff.mpr sn
  unfold pl
  generalize hn : loN h (shortest c) = n at *
  simp only
  have hlt : (h.take (h.length - n)).length = h.length - n := by rw [List.length_take]; omega
  by_cases c1 : p < h.length - n
  · rw [rowAt_head (by rw [hlt]; exact c1), rowAt_head (by omega), getD_take c1]
  · rw [rowAt_tail (by rw [hlt]; omega), hlt]
    have e1 : cyc (turnedL (shortest c) (-(n : Int))) ((p : Int) - ((h.length - n : Nat) : Int)) = cyc (shortest c) ((p : Int) - h.length) := by
      have q : (p : Int) - ((h.length - n : Nat) : Int) = ((p - (h.length - n) : Nat) : Int) := by omega
      rw [q, cyc_nat, turnedL_length, turnedL_get sn _ (Nat.mod_lt _ s0)]
      have q2 : -(n : Int) + ((p - (h.length - n)) % (shortest c).length : Nat) = ((p : Int) - h.length) + (shortest c).length * (-((p - (h.length - n)) / (shortest c).length : Nat) : Int) := by
        have := Nat.mod_add_div (p - (h.length - n)) (shortest c).length
        have q3 : (((p - (h.length - n)) % (shortest c).length : Nat) : Int) = (p - (h.length - n) : Nat) - ((shortest c).length * ((p - (h.length - n)) / (shortest c).length) : Nat) := by omega
        rw [q3, Int.natCast_mul, Int.mul_neg]
        omega
      rw [q2, cyc_add]
    rw [e1]
    by_cases c2 : p < h.length
    · have e2 := n2 (h.length - 1 - p) (by omega)
      have e3 : h.length - 1 - (h.length - 1 - p) = p := by omega
      rw [e3] at e2
      rw [rowAt_head c2, e2]
      congr 1
      omega
    · rw [rowAt_tail (by omega), cyc_shortest hc]
/-- k is a period from N on -/
def EvP (f : Nat → Int) (k N : Nat) : Prop := ∀ p, N ≤ p → f (p + k) = f p
theorem per_all {g : Nat → Int} {k : Nat} (h : ∀ i, g (i + k) = g i) (m : Nat) (i : Nat) : g (i + k * m) = g i := by
  induction m with
  | zero => simp
  | succ m ih => rw [Nat.mul_succ, ← Nat.add_assoc, h, ih]
theorem per_gcd {g : Nat → Int} (a b : Nat) : (∀ i, g (i + a) = g i) → (∀ i, g (i + b) = g i) → ∀ i, g (i + Nat.gcd a b) = g i := by
  induction a, b using Nat.gcd.induction with
  | H0 n => intro _ hb; simpa using hb
  | H1 m n hm ih =>
    intro ha hb
    rw [Nat.gcd_rec]
    refine ih (fun i => ?_) ha
    have e : i + n % m + m * (n / m) = i + n := by have := Nat.mod_add_div n m; omega
    rw [← per_all ha (n / m) (i + n % m), e, hb]
/-- no period of the row, from wherever on, is below the shortest -/
theorem per_min {h c : List Int} (hc : c ≠ []) {k N : Nat} (hk : 1 ≤ k) (e : EvP (rowAt h c) k N) : per c ≤ k := by
  have h0 : 0 < c.length := List.length_pos_iff.mpr hc
  let g : Nat → Int := fun i => cyc c i
  have gl : ∀ i, g (i + c.length) = g i := fun i => by
    have := cyc_add (c := c) (i : Int) 1
    show cyc c ((i + c.length : Nat) : Int) = cyc c i
    rw [← this]
    congr 1
    omega
  have gk : ∀ i, g (i + k) = g i := fun i => by
    have q := e (i + h.length + c.length * N) (by
      have : N ≤ c.length * N := Nat.le_mul_of_pos_left N h0
      omega)
    rw [rowAt_tail (by omega), rowAt_tail (by omega)] at q
    have e1 : (((i + h.length + c.length * N + k : Nat) : Int) - h.length) = ((i + k : Nat) : Int) + c.length * (N : Int) := by rw [Int.natCast_add, Int.natCast_add, Int.natCast_add, Int.natCast_mul]; omega
    have e2 : (((i + h.length + c.length * N : Nat) : Int) - h.length) = (i : Int) + c.length * (N : Int) := by rw [Int.natCast_add, Int.natCast_add, Int.natCast_mul]; omega
    rw [e1, e2, cyc_add, cyc_add] at q
    exact q
  have gd := per_gcd k c.length gk gl
  have hd1 : 1 ≤ Nat.gcd k c.length := Nat.gcd_pos_of_pos_left _ hk
  have hd2 : Nat.gcd k c.length ≤ k := Nat.gcd_le_left _ hk
  have hd3 : Nat.gcd k c.length ∣ c.length := Nat.gcd_dvd_right _ _
  refine Nat.le_trans ((per_spec hc).2.2.2 _ hd1 ⟨Nat.mod_eq_zero_of_dvd hd3, fun i hi => ?_⟩) hd2
  generalize Nat.gcd k c.length = d at *
  have := per_all gd (i / d) (i % d)
  rw [Nat.mod_add_div] at this
  have a1 : g i = c.getD i 0 := by show cyc c (i : Int) = _; rw [cyc_nat, Nat.mod_eq_of_lt hi]
  have hle : i % d ≤ i := Nat.mod_le _ _
  have a2 : g (i % d) = c.getD (i % d) 0 := by show cyc c ((i % d : Nat) : Int) = _; rw [cyc_nat, Nat.mod_eq_of_lt (by omega)]
  rw [← a1, ← a2, this]
theorem evp_pl {h c : List Int} (hc : c ≠ []) : EvP (rowAt h c) (per c) (h.length - loN h (shortest c)) := by
  intro p hp
  rw [← rowAt_pl hc, ← rowAt_pl hc p]
  have hlt : (pl h c).1.length = h.length - loN h (shortest c) := by unfold pl; simp only; rw [List.length_take]; omega
  rw [rowAt_tail (by rw [hlt]; omega), rowAt_tail (by rw [hlt]; omega)]
  have e : (pl h c).2.length = per c := by unfold pl; simp only; rw [turnedL_length, shortest_length hc]
  have := cyc_add (c := (pl h c).2) ((p : Int) - (pl h c).1.length) 1
  rw [← this, e]
  congr 1
  omega
/-- from before the least head's end on it is none -/
theorem evp_min {h c : List Int} (hc : c ≠ []) {N : Nat} (e : EvP (rowAt h c) (per c) N) : h.length - loN h (shortest c) ≤ N := by
  obtain ⟨n1, n2, n3⟩ := loN_spec h (shortest c)
  by_cases hlt : h.length - loN h (shortest c) ≤ N
  · exact hlt
  · have q1 := e (h.length - loN h (shortest c) - 1) (by omega)
    have e1 : h.length - loN h (shortest c) - 1 = h.length - 1 - loN h (shortest c) := by omega
    rw [e1] at q1
    have q2 := n3 (by omega)
    rw [rowAt_head (p := h.length - 1 - loN h (shortest c)) (by omega)] at q1
    rw [← q1] at q2
    refine absurd ?_ q2
    rw [← rowAt_pl hc]
    have hl : (pl h c).1.length = h.length - loN h (shortest c) := by unfold pl; simp only; rw [List.length_take]; omega
    have p1 := (per_spec hc).1
    rw [rowAt_tail (by rw [hl]; omega), hl]
    have sn := shortest_ne hc
    have s0 : 0 < (shortest c).length := List.length_pos_iff.mpr sn
    have sl := shortest_length hc
    have q : ((h.length - 1 - loN h (shortest c) + per c : Nat) : Int) - ((h.length - loN h (shortest c) : Nat) : Int) = ((per c - 1 : Nat) : Int) := by omega
    rw [q, cyc_nat]
    show (turnedL (shortest c) (-(loN h (shortest c) : Int))).getD _ 0 = _
    have hl2 : (pl h c).2.length = per c := by unfold pl; simp only; rw [turnedL_length, sl]
    rw [hl2, turnedL_get sn _ (by rw [sl]; exact Nat.mod_lt _ (by omega)), Nat.mod_eq_of_lt (by omega)]
    have := cyc_add (c := shortest c) (-1 - (loN h (shortest c) : Int)) 1
    rw [← this, sl]
    congr 1
    omega
theorem pl_lengths {h c : List Int} (hc : c ≠ []) : (pl h c).1.length = h.length - loN h (shortest c) ∧ (pl h c).2.length = per c := by
  refine ⟨?_, ?_⟩
  · unfold pl; simp only; rw [List.length_take]; omega
  · unfold pl; simp only; rw [turnedL_length, shortest_length hc]
/-- two rows are equal place by place exactly if their least forms are -/
theorem pl_eq {h c h' c' : List Int} (hc : c ≠ []) (hc' : c' ≠ []) (e : ∀ p, rowAt h c p = rowAt h' c' p) : pl h c = pl h' c' := by
  have ef : rowAt h c = rowAt h' c' := funext e
  have k1 : per c = per c' := by
    refine Nat.le_antisymm ?_ ?_
    · refine per_min (h := h) hc (per_spec hc').1 (N := h'.length - loN h' (shortest c')) ?_
      rw [ef]; exact evp_pl hc'
    · refine per_min (h := h') hc' (per_spec hc).1 (N := h.length - loN h (shortest c)) ?_
      rw [← ef]; exact evp_pl hc
  have k2 : h.length - loN h (shortest c) = h'.length - loN h' (shortest c') := by
    refine Nat.le_antisymm ?_ ?_
    · refine evp_min hc ?_
      rw [ef, k1]; exact evp_pl hc'
    · refine evp_min hc' ?_
      rw [← ef, ← k1]; exact evp_pl hc
  obtain ⟨a1, a2⟩ := pl_lengths (h := h) hc
  obtain ⟨b1, b2⟩ := pl_lengths (h := h') hc'
  have r1 := fun p => rowAt_pl (h := h) hc p
  have r2 := fun p => rowAt_pl (h := h') hc' p
  generalize pl h c = x at *
  generalize pl h' c' = y at *
  obtain ⟨x1, x2⟩ := x
  obtain ⟨y1, y2⟩ := y
  simp only at *
  have g1 : x1 = y1 := ext_getD (by omega) fun i hi => by
    have := (r1 i).trans ((e i).trans (r2 i).symm)
    rwa [rowAt_head hi, rowAt_head (by omega)] at this
  subst g1
  have g2 : x2 = y2 := ext_getD (by omega) fun i hi => by
    have := (r1 (x1.length + i)).trans ((e _).trans (r2 _).symm)
    unfold rowAt at this
    rw [if_neg (by omega), if_neg (by omega)] at this
    have q : x1.length + i - x1.length = i := by omega
    rwa [q, Nat.mod_eq_of_lt hi, Nat.mod_eq_of_lt (by omega)] at this
  rw [g2]
theorem pl_ne {h c h' c' : List Int} (hc : c ≠ []) (hc' : c' ≠ []) {p : Nat} (e : rowAt h c p ≠ rowAt h' c' p) : pl h c ≠ pl h' c' := fun q => e (by rw [← rowAt_pl hc, ← rowAt_pl hc', q])
end K55

set_option maxHeartbeats 4000000
namespace K55
open PySem L2 DL
theorem u200 {k : Nat} {A : Around} (r : Room k A) : A.units + 200 < cLine := by have := r.un; omega
/-! ### what each def promises -/
def RowAt (M : Mp) (A : Adr) (a : Addr) (h c : List Int) : Prop := M a = some (.ins A.Row [("head", T h), ("cycle", T c)])
def oRow (A : Adr) (h c : List Int) : MO := .ins A.Row [("head", T h), ("cycle", T c)]
def xOut (A : Adr) : DX := ⟨.ref A.OutOfRange, none, []⟩
/-- a row that the class takes -/
def good (h c : List Int) : Prop := c ≠ [] ∧ (∀ x, x ∈ h → 0 ≤ x) ∧ ∀ x, x ∈ c → 0 ≤ x
/-- sizes that are met -/
def sized (h c : List Int) : Prop := h.length ≤ 1000 ∧ c.length ≤ 1000
def bh (h c : List Int) (n : Int) : List Int × List Int := if n ≤ h.length then (h.drop n.toNat, c) else ([], turnedL c (n - h.length))
/-- everything but s stays -/
def Ext (s : Addr) (M M' : Mp) : Prop := ∀ a o, a ≠ s → M a = some o → M' a = some o
/-- the draws' state at s, the script's ints at l -/
def PSt (M : Mp) (s l : Addr) (ns : List Int) : Prop := s ≠ l ∧ M l = some (.lst (ns.map D.int)) ∧ ∃ seed pos rest : Int, M s = some (.lst [.int seed, .ref l, .int pos, .int rest]) ∧ 0 ≤ seed ∧ seed < 2147483647 ∧ 0 ≤ pos ∧ pos ≤ ns.length ∧ 0 ≤ rest
def sp_shortest_cycle : DSp := fun ds M Q _ => ∃ c, c ≠ [] ∧ c.length ≤ 1000 ∧ ds = [T c] ∧ Q (T (shortest c)) M
def sp_turned : DSp := fun ds M Q _ => ∃ c n, c ≠ [] ∧ c.length ≤ 1000 ∧ ds = [T c, .int n] ∧ Q (T (turnedL c n)) M
def sp_loose_entries : DSp := fun ds M Q _ => ∃ h c, c ≠ [] ∧ ds = [T h, T c] ∧ Q (.int (loN h c)) M
def sp_Row_init (A : Adr) : DSp := fun ds M Q E => ∃ a h c, ds = [.ref a, T h, T c] ∧ sized h c ∧ M a = some (.ins A.Row []) ∧ (good h c → Q .non (put M a (oRow A h c))) ∧ (¬ good h c → E (xOut A) M)
def sp_Row_getitem (A : Adr) : DSp := fun ds M Q E => ∃ a h c i, ds = [.ref a, .int i] ∧ c ≠ [] ∧ RowAt M A a h c ∧ (0 ≤ i → Q (.int (rowAt h c i.toNat)) M) ∧ (i < 0 → E (xOut A) M)
def sp_Row_start (A : Adr) : DSp := fun ds M Q E => ∃ a h c i, ds = [.ref a, .int i] ∧ c ≠ [] ∧ RowAt M A a h c ∧ i ≤ 100000 ∧ (0 ≤ i → Q (T ((List.range i.toNat).map (rowAt h c))) M) ∧ (i < 0 → E (xOut A) M)
def sp_Row_least (A : Adr) : DSp := fun ds M Q E => ∃ a h c, ds = [.ref a] ∧ good h c ∧ sized h c ∧ RowAt M A a h c ∧ ∀ p, M p = none → Q (.ref p) (put M p (oRow A (pl h c).1 (pl h c).2))
def sp_Row_after (A : Adr) : DSp := fun ds M Q E => ∃ a h c n, ds = [.ref a, .int n] ∧ good h c ∧ sized h c ∧ RowAt M A a h c ∧ (0 ≤ n → ∀ p, M p = none → Q (.ref p) (put M p (oRow A (pl (bh h c n).1 (bh h c n).2).1 (pl (bh h c n).1 (bh h c n).2).2))) ∧ (n < 0 → E (xOut A) M)
def sp_same_rows (A : Adr) : DSp := fun ds M Q E => ∃ a b h c h' c', ds = [.ref a, .ref b] ∧ good h c ∧ sized h c ∧ good h' c' ∧ sized h' c' ∧ RowAt M A a h c ∧ RowAt M A b h' c' ∧ Q (.bl (decide (pl h c = pl h' c'))) M
def sp_law_start1 : DSp := fun ds M Q _ => ∃ (a : Addr) (ns : List Int), ds = [.ref a] ∧ M a = some (.rol (ns.map D.int)) ∧ ns.length ≤ 100000 ∧ ∀ s l M', PSt M' s l ns → Sub M M' → Q (.ref s) M'
def sp_law_start2 (K : PySem.W.Frag) : DSp := fun ds M Q _ => ∃ (a : Addr) (ns : List Int), ds = [.ref a] ∧ KL K a ns ∧ ns.length ≤ 100000 ∧ ∀ s l M', PSt M' s l ns → Sub M M' → Q (.ref s) M'
def sp_law_start (K : PySem.W.Frag) : DSp := fun ds M Q _ => ∃ (a : Addr) (ns : List Int), ds = [.ref a] ∧ (M a = some (.rol (ns.map D.int)) ∨ KL K a ns) ∧ ns.length ≤ 100000 ∧ ∀ s l M', PSt M' s l ns → Sub M M' → Q (.ref s) M'
def sp_law_pick : DSp := fun ds M Q _ => ∃ (s l : Addr) (ns : List Int) (limit : Int), ds = [.ref s, .int limit] ∧ PSt M s l ns ∧ 0 < limit ∧ limit.natAbs.log2 < 9000 ∧
  ∀ (r : Int) (o : MO), 0 ≤ r → r < limit → PSt (put M s o) s l ns → Q (.int r) (put M s o)
def okS : Nat → D → Prop
  | n, .tup xs => ∃ m, n = m + 1 ∧ xs.length ≤ 100000 ∧ ∀ x, x ∈ xs → okS m x
  | _, .ref _ => False
  | _, .ty _ => False
  | _, d => ok d = true
def sp_law_same : Nat → DSp
  | 0 => fun _ _ _ _ => False
  | n + 1 => fun ds M Q _ => ∃ d, ds = [d, d] ∧ okS n d ∧ Q (.bl true) M
def sp_law_at : DSp := fun ds M Q _ => ∃ h c p, ds = [T h, T c, .int p] ∧ c ≠ [] ∧ 0 ≤ p ∧ Q (.int (rowAt h c p.toNat)) M
def sp_law_least : DSp := fun ds M Q _ => ∃ h c, ds = [T h, T c] ∧ c ≠ [] ∧ sized h c ∧ Q (.tup [T (pl h c).1, T (pl h c).2]) M
def sp_law_behind : DSp := fun ds M Q _ => ∃ h c n, ds = [T h, T c, .int n] ∧ c ≠ [] ∧ sized h c ∧ 0 ≤ n ∧ Q (.tup [T (pl (bh h c n).1 (bh h c n).2).1, T (pl (bh h c n).1 (bh h c n).2).2]) M
def sp_law_is_row (A : Adr) : DSp := fun ds M Q _ => ∃ a h c, ds = [.ref a, .tup [T h, T c]] ∧ sized h c ∧ RowAt M A a h c ∧ Q (.bl true) M
/-- what a draw makes -/
def within (top : Int) (h c : List Int) : Prop := 2 ≤ top ∧ (∀ x, x ∈ h → 0 ≤ x ∧ x < top) ∧ ∀ x, x ∈ c → 0 ≤ x ∧ x < top
def sp_law_row : DSp := fun ds M Q _ => ∃ s l ns, ds = [.ref s] ∧ PSt M s l ns ∧ ∀ p M' h c top, p ≠ s → PSt M' s l ns → Ext s M M' → M' p = some (.lst [T h, T c, .int top]) → c ≠ [] → c.length ≤ 400 → h.length ≤ 400 → within top h c → Q (.ref p) M'
def sp_law_other : DSp := fun ds M Q _ => ∃ s l ns h c, ds = [.ref s, T h, T c] ∧ PSt M s l ns ∧ c ≠ [] ∧ c.length ≤ 400 ∧ h.length ≤ 400 ∧ ∀ p M' h' c', p ≠ s → PSt M' s l ns → Ext s M M' → M' p = some (.lst [T h', T c']) →
  c' ≠ [] → c'.length ≤ 400 → h'.length ≤ 800 → (∀ x, x ∈ h' → x ∈ h ∨ x ∈ c) → (∀ x, x ∈ c' → x ∈ c) → (∀ i, rowAt h' c' i = rowAt h c i) → Q (.ref p) M'
def sp_law_bent : DSp := fun ds M Q _ => ∃ s l ns h c top, ds = [.ref s, T h, T c, .int top] ∧ PSt M s l ns ∧ c ≠ [] ∧ sized h c ∧ within top h c ∧ ∀ p M' h' c' at_, p ≠ s → PSt M' s l ns → Ext s M M' → M' p = some (.lst [T h', T c', .int (at_ : Nat)]) →
  h'.length = h.length → c'.length = c.length → within top h' c' → at_ < h.length + c.length → rowAt h' c' at_ ≠ rowAt h c at_ → Q (.ref p) M'
def told (d : D) : D := .tup [.str "told", d]
def refused : D := .tup [.str "refused", .bl true, .bl false]
def sp_law_asked (A : Adr) : DSp := fun ds M Q _ => ∃ (way : Int) (a : Addr) (i : Int) (hr cr h c : List Int), ds = [.int way, .ref a, .int i, T h, T c] ∧ RowAt M A a hr cr ∧ good hr cr ∧ sized hr cr ∧ sized h c ∧ i ≤ 100000 ∧
  ((way = 0 ∧ 0 ≤ i ∧ Q (told (.int (rowAt hr cr i.toNat))) M) ∨ (way = 1 ∧ 0 ≤ i ∧ Q (told (T ((List.range i.toNat).map (rowAt hr cr)))) M) ∨ (way = 2 ∧ 0 ≤ i ∧ Q (told (T (pl (bh hr cr i).1 (bh hr cr i).2).1)) M) ∨
   ((way = 0 ∨ way = 1 ∨ way = 2) ∧ i < 0 ∧ Q refused M) ∨ (way = 3 ∧ ¬ good h c ∧ Q refused M))
def sp_law_refusals (A : Adr) : DSp := fun ds M Q _ => ∃ s l ns a h c, ds = [.ref s, .ref a, T h, T c] ∧ PSt M s l ns ∧ a ≠ s ∧ RowAt M A a h c ∧ good h c ∧ sized h c ∧ ∀ M', PSt M' s l ns → Ext s M M' → Q (.bl true) M'
def sp_law_entries (A : Adr) : DSp := fun ds M Q _ => ∃ s l ns a h c, ds = [.ref s, .ref a, T h, T c] ∧ PSt M s l ns ∧ a ≠ s ∧ RowAt M A a h c ∧ good h c ∧ sized h c ∧ ∀ M', PSt M' s l ns → Ext s M M' → Q (.bl true) M'
def sp_law (K : PySem.W.Frag) : DSp := spScript K
abbrev dd_Row_init_1 : List D := [T [0]]
end K55

set_option maxHeartbeats 4000000
namespace K55
open PySem L2 DL
section
variable {P : Program} {w : World} {K : PySem.W.Frag} {mg : Str → Option Value} {base : Heap} {A : Adr}
def t_shortest_cycle (K : PySem.W.Frag) (A : Adr) : DS :=
  (dSeq (dFor (dRng2 (dCons (dC (.int 1)) (dCons (dCB lenG (dCons (dVar 0) dNil)) dNil))) (dName 1) (dIfS (dAnd (dB (dOp eqD (dOp (oI (fun _ j => 0 < j) fun i j => .int (i % j)) (dCB lenG (dCons (dVar 0) dNil)) (dVar 1)) (dC (.int 0)))) (dB (dOp eqD (dOp mulD (dSl (dVar 0) dNoP (dPart (dVar 1))) (dOp (oI CDivW fun i j => .int (i / j)) (dCB lenG (dCons (dVar 0) dNil)) (dVar 1))) (dVar 0)))) (dRet (dSl (dVar 0) dNoP (dPart (dVar 1)))) dNext))
    (dRet (dVar 0)))
theorem ok_shortest_cycle {f : Addr} {fd : FuncData} (T : Txt K mg A)  (F : L2.Fun K "shortest_cycle" "shortest_cycle" s_shortest_cycle f fd) (sp : DSp) (len : ∀ ds M Q E, sp ds M Q E → ds.length = P_shortest_cycle.length) (h : ∀ ds M Q E, sp ds M Q E → t_shortest_cycle K A (ends Q E) (dstart N_shortest_cycle ds) M) :
    FnOk P w K mg base (L2.CX P w) (0 + 1) f fd P_shortest_cycle (liftSp K sp) :=
  okD F sc_shortest_cycle len fun cdv A outer s H E hr tk => ⟨t_shortest_cycle K _, (pssd_cons (psd_for (passes_of rfl) rfl (pid_rng2 rfl T.n_range (pad_cons pd_int (pad_cons (pd_callB call_lenG rfl T.n_len bt_len (pad_cons (pdv 0) pad_nil)) pad_nil))) (pgd_name (pg_name (i := 1) sc_shortest_cycle.nd rfl (Or.inl rfl))) (pssd_one (psd_if (PWD.pt (pwd_and (pt_cmpD (op_eqG (u200 hr)) (pd_op op_modD (pd_callB call_lenG rfl T.n_len bt_len (pad_cons (pdv 0) pad_nil)) (pdv 1)) pd_int (nomark _)) (pwd_and1 (pt_cmpD (op_eqG (u200 hr)) (pd_op op_mulD (pd_slice (pdv 0) pod_none (pod_some (pdv 1))) (pd_op op_fdivD (pd_callB call_lenG rfl T.n_len bt_len (pad_cons (pdv 0) pad_nil)) (pdv 1))) (pdv 0) (nomark _))))) (pssd_one (psd_ret (pd_slice (pdv 0) pod_none (pod_some (pdv 1))))) pssd_nil)))
    (pssd_one (psd_ret (pdv 0)))), h⟩
def t_turned (K : PySem.W.Frag) (A : Adr) : DS :=
  (dSeq (dAsg (dOp (oI (fun _ j => 0 < j) fun i j => .int (i % j)) (dVar 1) (dCB lenG (dCons (dVar 0) dNil))) (dName 2))
    (dRet (dOp addD (dSl (dVar 0) (dPart (dVar 2)) dNoP) (dSl (dVar 0) dNoP (dPart (dVar 2))))))
theorem ok_turned {f : Addr} {fd : FuncData} (T : Txt K mg A)  (F : L2.Fun K "turned" "turned" s_turned f fd) (sp : DSp) (len : ∀ ds M Q E, sp ds M Q E → ds.length = P_turned.length) (h : ∀ ds M Q E, sp ds M Q E → t_turned K A (ends Q E) (dstart N_turned ds) M) :
    FnOk P w K mg base (L2.CX P w) (0 + 1) f fd P_turned (liftSp K sp) :=
  okD F sc_turned len fun cdv A outer s H E hr tk => ⟨t_turned K _, (pssd_cons (psd_set (i := 2) sc_turned.nd rfl (Or.inl rfl) (pd_op op_modD (pdv 1) (pd_callB call_lenG rfl T.n_len bt_len (pad_cons (pdv 0) pad_nil))))
    (pssd_one (psd_ret (pd_op op_addD (pd_slice (pdv 0) (pod_some (pdv 2)) pod_none) (pd_slice (pdv 0) pod_none (pod_some (pdv 2))))))), h⟩
def t_loose_entries (K : PySem.W.Frag) (A : Adr) : DS :=
  (dSeq (dAsg (dC (.int 0)) (dName 2))
    (dSeq (dWhile (dAnd (dB (dOp (oI0 fun i j => .bl (decide (i < j))) (dVar 2) (dCB lenG (dCons (dVar 0) dNil)))) (dB (dOp eqD (dOp ixG (dVar 0) (dOp (oI0 fun i j => .int (i - j)) (dOp (oI0 fun i j => .int (i - j)) (dCB lenG (dCons (dVar 0) dNil)) (dC (.int 1))) (dVar 2))) (dOp ixG (dVar 1) (dOp (oI (fun _ j => 0 < j) fun i j => .int (i % j)) (dOp (oI0 fun i j => .int (i - j)) (dNeg (dC (.int 1))) (dVar 2)) (dCB lenG (dCons (dVar 1) dNil))))))) (dAug 2 (dC (.int 1)) (oI0 fun i j => .int (i + j))))
    (dRet (dVar 2))))
theorem ok_loose_entries {f : Addr} {fd : FuncData} (T : Txt K mg A)  (F : L2.Fun K "loose_entries" "loose_entries" s_loose_entries f fd) (sp : DSp) (len : ∀ ds M Q E, sp ds M Q E → ds.length = P_loose_entries.length) (h : ∀ ds M Q E, sp ds M Q E → t_loose_entries K A (ends Q E) (dstart N_loose_entries ds) M) :
    FnOk P w K mg base (L2.CX P w) (0 + 1) f fd P_loose_entries (liftSp K sp) :=
  okD F sc_loose_entries len fun cdv A outer s H E hr tk => ⟨t_loose_entries K _, (pssd_cons (psd_set (i := 2) sc_loose_entries.nd rfl (Or.inl rfl) pd_int)
    (pssd_cons (psd_while (passes_of rfl) (PWD.pt (pwd_and (pt_cmpD op_ltD (pdv 2) (pd_callB call_lenG rfl T.n_len bt_len (pad_cons (pdv 0) pad_nil)) (nomark _)) (pwd_and1 (pt_cmpD (op_eqG (u200 hr)) (pd_ix ix_G (pdv 0) (pd_op op_subD (pd_op op_subD (pd_callB call_lenG rfl T.n_len bt_len (pad_cons (pdv 0) pad_nil)) pd_int) (pdv 2)) (fun _ _ => rfl)) (pd_ix ix_G (pdv 1) (pd_op op_modD (pd_op op_subD (pd_neg pd_int) (pdv 2)) (pd_callB call_lenG rfl T.n_len bt_len (pad_cons (pdv 1) pad_nil))) (fun _ _ => rfl)) (nomark _))))) (pssd_one (psd_aug (i := 2) sc_loose_entries.nd rfl (Or.inl rfl) pd_int iop_addI)))
    (pssd_one (psd_ret (pdv 2))))), h⟩
def t_Row_init (K : PySem.W.Frag) (A : Adr) : DS :=
  (dSeq (dIfS (dB (dOp eqD (dCB lenG (dCons (dVar 2) dNil)) (dC (.int 0)))) (dRaise A.OutOfRange) dNext)
    (dSeq (dFor (dIter (dOp addD (dVar 1) (dVar 2))) (dName 3) (dIfS (dB (dOp (oI0 fun i j => .bl (decide (i < j))) (dVar 3) (dC (.int 0)))) (dRaise A.OutOfRange) dNext))
    (dSeq (dFldS K (dVar 0) (dVar 1) "head")
    (dFldS K (dVar 0) (dVar 2) "cycle"))))
theorem ok_Row_init {f : Addr} {fd : FuncData} {dvs : List V} {kws : List (Str × V)} (T : Txt K mg A)  (F : FunD K "__init__" "Row.__init__" (defArgs s_Row_init) (defBody s_Row_init) (defScope s_Row_init) dvs kws f fd) (sp : DSp) (len : ∀ ds M Q E, sp ds M Q E → ds.length = P_Row_init.length) (h : ∀ ds M Q E, sp ds M Q E → t_Row_init K A (ends Q E) (dstart N_Row_init ds) M) :
    FnOk P w K mg base (L2.CX P w) (0 + 1) f fd P_Row_init (liftSp K sp) :=
  okDf F sc_Row_init len fun cdv A outer s H E hr tk => ⟨t_Row_init K _, (pssd_cons (psd_if (pt_cmpD (op_eqG (u200 hr)) (pd_callB call_lenG rfl T.n_len bt_len (pad_cons (pdv 2) pad_nil)) pd_int (nomark _)) (pssd_one (psd_raise T.x_OutOfRange rfl tk rfl)) pssd_nil)
    (pssd_cons (psd_for (passes_of rfl) rfl (pid_any (pd_op op_addD (pdv 1) (pdv 2))) (pgd_name (pg_name (i := 3) sc_Row_init.nd rfl (Or.inl rfl))) (pssd_one (psd_if (pt_cmpD op_ltD (pdv 3) pd_int (nomark _)) (pssd_one (psd_raise T.x_OutOfRange rfl tk rfl)) pssd_nil)))
    (pssd_cons (psd_fld (pdv 0) (pdv 1))
    (pssd_one (psd_fld (pdv 0) (pdv 2)))))), h⟩
def t_Row_getitem (K : PySem.W.Frag) (A : Adr) : DS :=
  (dSeq (dIfS (dB (dOp (oI0 fun i j => .bl (decide (i < j))) (dVar 1) (dC (.int 0)))) (dRaise A.OutOfRange) dNext)
    (dSeq (dIfS (dB (dOp (oI0 fun i j => .bl (decide (i < j))) (dVar 1) (dCB lenG (dCons (dFld K (dVar 0) "head") dNil)))) (dRet (dOp ixG (dFld K (dVar 0) "head") (dVar 1))) dNext)
    (dRet (dOp ixG (dFld K (dVar 0) "cycle") (dOp (oI (fun _ j => 0 < j) fun i j => .int (i % j)) (dOp (oI0 fun i j => .int (i - j)) (dVar 1) (dCB lenG (dCons (dFld K (dVar 0) "head") dNil))) (dCB lenG (dCons (dFld K (dVar 0) "cycle") dNil)))))))
theorem ok_Row_getitem {f : Addr} {fd : FuncData} (T : Txt K mg A)  (F : L2.Fun K "__getitem__" "Row.__getitem__" s_Row_getitem f fd) (sp : DSp) (len : ∀ ds M Q E, sp ds M Q E → ds.length = P_Row_getitem.length) (h : ∀ ds M Q E, sp ds M Q E → t_Row_getitem K A (ends Q E) (dstart N_Row_getitem ds) M) :
    FnOk P w K mg base (L2.CX P w) (0 + 1) f fd P_Row_getitem (liftSp K sp) :=
  okD F sc_Row_getitem len fun cdv A outer s H E hr tk => ⟨t_Row_getitem K _, (pssd_cons (psd_if (pt_cmpD op_ltD (pdv 1) pd_int (nomark _)) (pssd_one (psd_raise T.x_OutOfRange rfl tk rfl)) pssd_nil)
    (pssd_cons (psd_if (pt_cmpD op_ltD (pdv 1) (pd_callB call_lenG rfl T.n_len bt_len (pad_cons (pd_fld (pdv 0)) pad_nil)) (nomark _)) (pssd_one (psd_ret (pd_ix ix_G (pd_fld (pdv 0)) (pdv 1) (fun _ _ => rfl)))) pssd_nil)
    (pssd_one (psd_ret (pd_ix ix_G (pd_fld (pdv 0)) (pd_op op_modD (pd_op op_subD (pdv 1) (pd_callB call_lenG rfl T.n_len bt_len (pad_cons (pd_fld (pdv 0)) pad_nil))) (pd_callB call_lenG rfl T.n_len bt_len (pad_cons (pd_fld (pdv 0)) pad_nil))) (fun _ _ => rfl)))))), h⟩
def t_Row_start (K : PySem.W.Frag) (A : Adr) : DS :=
  (dSeq (dIfS (dB (dOp (oI0 fun i j => .bl (decide (i < j))) (dVar 1) (dC (.int 0)))) (dRaise A.OutOfRange) dNext)
    (dRet (dCB tupG (dCons (dLc (dRng1 (dCons (dVar 1) dNil)) (fun d τ => τ.set 2 (some d)) dYes (dIxO A.Row (sp_Row_getitem A) (dVar 0) (dVar 2)) [2]) dNil))))
theorem ok_Row_start {f : Addr} {fd : FuncData} (T : Txt K mg A) (G_Row_getitem : MetD P w K mg base 1 A.Row "__getitem__" P_Row_getitem [] (sp_Row_getitem A)) (F : L2.Fun K "start" "Row.start" s_Row_start f fd) (sp : DSp) (len : ∀ ds M Q E, sp ds M Q E → ds.length = P_Row_start.length) (h : ∀ ds M Q E, sp ds M Q E → t_Row_start K A (ends Q E) (dstart N_Row_start ds) M) :
    FnOk P w K mg base (L2.CX P w) (2 + 1) f fd P_Row_start (liftSp K sp) :=
  okD F sc_Row_start len fun cdv A outer s H E hr tk => ⟨t_Row_start K _, (pssd_cons (psd_if (pt_cmpD op_ltD (pdv 1) pd_int (nomark _)) (pssd_one (psd_raise T.x_OutOfRange rfl tk rfl)) pssd_nil)
    (pssd_one (psd_ret (pd_callT call_tupG rfl T.n_tuple bt_tuple (pad_cons (pd_lc (own := [("place", 2)]) (i := 2) rfl sc_Row_start.nd (pid_rng1 rfl T.n_range (pad_cons (pdv 1) pad_nil)) (blkOk_by (N := N_Row_start) (sc := defScope s_Row_start) (by decide +kernel)) (by decide) (fun _ _ _ _ _ => pg_name (i := 2) sc_Row_start.nd rfl (Or.inl rfl)) (fun _ _ _ _ _ => ptsd_nil) (fun _ _ _ _ _ => (pd_ixO G_Row_getitem T.f_Row_getitem (hr.mono (by omega)) tk0 (pdv 0) (pdv 2)))) pad_nil))))), h⟩
def t_Row_least (K : PySem.W.Frag) (A : Adr) : DS :=
  (dSeq (dAsg (dCall sp_shortest_cycle [] (dCons (dFld K (dVar 0) "cycle") dNil)) (dName 1))
    (dSeq (dAsg (dCall sp_loose_entries [] (dCons (dFld K (dVar 0) "head") (dCons (dVar 1) dNil))) (dName 2))
    (dRet (dMake A.Row (sp_Row_init A) [] (dCons (dSl (dFld K (dVar 0) "head") dNoP (dPart (dOp (oI0 fun i j => .int (i - j)) (dCB lenG (dCons (dFld K (dVar 0) "head") dNil)) (dVar 2)))) (dCons (dCall sp_turned [] (dCons (dVar 1) (dCons (dNeg (dVar 2)) dNil))) dNil))))))
theorem ok_Row_least {f : Addr} {fd : FuncData} (T : Txt K mg A) (G_Row_init : MakD P w K mg base 1 "Row" A.Row P_Row_init [] (sp_Row_init A)) (G_loose_entries : FnD P w K mg base 1 "loose_entries" P_loose_entries [] sp_loose_entries) (G_shortest_cycle : FnD P w K mg base 1 "shortest_cycle" P_shortest_cycle [] sp_shortest_cycle) (G_turned : FnD P w K mg base 1 "turned" P_turned [] sp_turned) (F : L2.Fun K "least" "Row.least" s_Row_least f fd) (sp : DSp) (len : ∀ ds M Q E, sp ds M Q E → ds.length = P_Row_least.length) (h : ∀ ds M Q E, sp ds M Q E → t_Row_least K A (ends Q E) (dstart N_Row_least ds) M) :
    FnOk P w K mg base (L2.CX P w) (2 + 1) f fd P_Row_least (liftSp K sp) :=
  okD F sc_Row_least len fun cdv A outer s H E hr tk => ⟨t_Row_least K _, (pssd_cons (psd_set (i := 1) sc_Row_least.nd rfl (Or.inl rfl) (pd_call G_shortest_cycle (hr.mono (by omega)) tk rfl (pad_cons (pd_fld (pdv 0)) pad_nil)))
    (pssd_cons (psd_set (i := 2) sc_Row_least.nd rfl (Or.inl rfl) (pd_call G_loose_entries (hr.mono (by omega)) tk rfl (pad_cons (pd_fld (pdv 0)) (pad_cons (pdv 1) pad_nil))))
    (pssd_one (psd_ret (pd_make G_Row_init (hr.mono (by omega)) tk rfl (pad_cons (pd_slice (pd_fld (pdv 0)) pod_none (pod_some (pd_op op_subD (pd_callB call_lenG rfl T.n_len bt_len (pad_cons (pd_fld (pdv 0)) pad_nil)) (pdv 2)))) (pad_cons (pd_call G_turned (hr.mono (by omega)) tk rfl (pad_cons (pdv 1) (pad_cons (pd_neg (pdv 2)) pad_nil))) pad_nil))))))), h⟩
def t_Row_after (K : PySem.W.Frag) (A : Adr) : DS :=
  (dSeq (dIfS (dB (dOp (oI0 fun i j => .bl (decide (i < j))) (dVar 1) (dC (.int 0)))) (dRaise A.OutOfRange) dNext)
    (dSeq (dIfS (dB (dOp (oI0 fun i j => .bl (decide (i ≤ j))) (dVar 1) (dCB lenG (dCons (dFld K (dVar 0) "head") dNil)))) (dRet (dMeth A.Row "least" (sp_Row_least A) [] (dMake A.Row (sp_Row_init A) [] (dCons (dSl (dFld K (dVar 0) "head") (dPart (dVar 1)) dNoP) (dCons (dFld K (dVar 0) "cycle") dNil))) dNil)) dNext)
    (dRet (dMeth A.Row "least" (sp_Row_least A) [] (dMake A.Row (sp_Row_init A) [] (dCons (dTup dNil) (dCons (dCall sp_turned [] (dCons (dFld K (dVar 0) "cycle") (dCons (dOp (oI0 fun i j => .int (i - j)) (dVar 1) (dCB lenG (dCons (dFld K (dVar 0) "head") dNil))) dNil))) dNil))) dNil))))
theorem ok_Row_after {f : Addr} {fd : FuncData} (T : Txt K mg A) (G_Row_init : MakD P w K mg base 1 "Row" A.Row P_Row_init [] (sp_Row_init A)) (G_Row_least : MetD P w K mg base 3 A.Row "least" P_Row_least [] (sp_Row_least A)) (G_turned : FnD P w K mg base 1 "turned" P_turned [] sp_turned) (F : L2.Fun K "after" "Row.after" s_Row_after f fd) (sp : DSp) (len : ∀ ds M Q E, sp ds M Q E → ds.length = P_Row_after.length) (h : ∀ ds M Q E, sp ds M Q E → t_Row_after K A (ends Q E) (dstart N_Row_after ds) M) :
    FnOk P w K mg base (L2.CX P w) (3 + 1) f fd P_Row_after (liftSp K sp) :=
  okD F sc_Row_after len fun cdv A outer s H E hr tk => ⟨t_Row_after K _, (pssd_cons (psd_if (pt_cmpD op_ltD (pdv 1) pd_int (nomark _)) (pssd_one (psd_raise T.x_OutOfRange rfl tk rfl)) pssd_nil)
    (pssd_cons (psd_if (pt_cmpD op_leD (pdv 1) (pd_callB call_lenG rfl T.n_len bt_len (pad_cons (pd_fld (pdv 0)) pad_nil)) (nomark _)) (pssd_one (psd_ret (pd_meth0 G_Row_least (hr.mono (by omega)) tk (pd_make G_Row_init (hr.mono (by omega)) tk rfl (pad_cons (pd_slice (pd_fld (pdv 0)) (pod_some (pdv 1)) pod_none) (pad_cons (pd_fld (pdv 0)) pad_nil)))))) pssd_nil)
    (pssd_one (psd_ret (pd_meth0 G_Row_least (hr.mono (by omega)) tk (pd_make G_Row_init (hr.mono (by omega)) tk rfl (pad_cons (pd_tup pad_nil) (pad_cons (pd_call G_turned (hr.mono (by omega)) tk rfl (pad_cons (pd_fld (pdv 0)) (pad_cons (pd_op op_subD (pdv 1) (pd_callB call_lenG rfl T.n_len bt_len (pad_cons (pd_fld (pdv 0)) pad_nil))) pad_nil))) pad_nil)))))))), h⟩
def t_same_rows (K : PySem.W.Frag) (A : Adr) : DS :=
  (dSeq (dAsg (dMeth A.Row "least" (sp_Row_least A) [] (dVar 0) dNil) (dName 2))
    (dSeq (dAsg (dMeth A.Row "least" (sp_Row_least A) [] (dVar 1) dNil) (dName 3))
    (dRet (dAndV (dOp eqD (dFld K (dVar 2) "head") (dFld K (dVar 3) "head")) (dOp eqD (dFld K (dVar 2) "cycle") (dFld K (dVar 3) "cycle"))))))
theorem ok_same_rows {f : Addr} {fd : FuncData} (T : Txt K mg A) (G_Row_least : MetD P w K mg base 3 A.Row "least" P_Row_least [] (sp_Row_least A)) (F : L2.Fun K "same_rows" "same_rows" s_same_rows f fd) (sp : DSp) (len : ∀ ds M Q E, sp ds M Q E → ds.length = P_same_rows.length) (h : ∀ ds M Q E, sp ds M Q E → t_same_rows K A (ends Q E) (dstart N_same_rows ds) M) :
    FnOk P w K mg base (L2.CX P w) (3 + 1) f fd P_same_rows (liftSp K sp) :=
  okD F sc_same_rows len fun cdv A outer s H E hr tk => ⟨t_same_rows K _, (pssd_cons (psd_set (i := 2) sc_same_rows.nd rfl (Or.inl rfl) (pd_meth0 G_Row_least (hr.mono (by omega)) tk (pdv 0)))
    (pssd_cons (psd_set (i := 3) sc_same_rows.nd rfl (Or.inl rfl) (pd_meth0 G_Row_least (hr.mono (by omega)) tk (pdv 1)))
    (pssd_one (psd_ret (pd_and (pd_cmp (op_eqG (u200 hr)) (pd_fld (pdv 2)) (pd_fld (pdv 3)) (nomark _)) (pd_one (pd_cmp (op_eqG (u200 hr)) (pd_fld (pdv 2)) (pd_fld (pdv 3)) (nomark _)))))))), h⟩
def t_law_start (K : PySem.W.Frag) (A : Adr) : DS :=
  (dSeq (dAsg (dC (.int 7)) (dName 1))
    (dSeq (dFor (dRng1 (dCons (dCB lenG (dCons (dVar 0) dNil)) dNil)) (dName 2) (dAsg (dOp (oI (fun _ j => 0 < j) fun i j => .int (i % j)) (dOp addD (dOp addD (dOp addD (dOp mulD (dVar 1) (dC (.int 48271))) (dOp (oI (fun _ j => 0 < j) fun i j => .int (i % j)) (dCB intG (dCons (dOp ixG (dVar 0) (dVar 2)) dNil)) (dC (.int 2147483647)))) (dVar 2)) (dC (.int 1))) (dC (.int 2147483647))) (dName 1)))
    (dRet (dLst (dCons (dVar 1) (dCons (dCB lstG (dCons (dVar 0) dNil)) (dCons (dC (.int 0)) (dCons (dC (.int 0)) dNil))))))))
theorem ok_law_start {f : Addr} {fd : FuncData} (T : Txt K mg A)  (F : L2.Fun K "_law_start" "_law_start" s_law_start f fd) (sp : DSp) (len : ∀ ds M Q E, sp ds M Q E → ds.length = P_law_start.length) (h : ∀ ds M Q E, sp ds M Q E → t_law_start K A (ends Q E) (dstart N_law_start ds) M) :
    FnOk P w K mg base (L2.CX P w) (0 + 1) f fd P_law_start (liftSp K sp) :=
  okD F sc_law_start len fun cdv A outer s H E hr tk => ⟨t_law_start K _, (pssd_cons (psd_set (i := 1) sc_law_start.nd rfl (Or.inl rfl) pd_int)
    (pssd_cons (psd_for (passes_of rfl) rfl (pid_rng1 rfl T.n_range (pad_cons (pd_callB call_lenG rfl T.n_len bt_len (pad_cons (pdv 0) pad_nil)) pad_nil)) (pgd_name (pg_name (i := 2) sc_law_start.nd rfl (Or.inl rfl))) (pssd_one (psd_set (i := 1) sc_law_start.nd rfl (Or.inl rfl) (pd_op op_modD (pd_op op_addD (pd_op op_addD (pd_op op_addD (pd_op op_mulD (pdv 1) pd_int) (pd_op op_modD (pd_callT call_intG rfl T.n_int bt_int (pad_cons (pd_ix ix_G (pdv 0) (pdv 2) (fun _ _ => rfl)) pad_nil)) pd_int)) (pdv 2)) pd_int) pd_int))))
    (pssd_one (psd_ret (pd_lst (pad_cons (pdv 1) (pad_cons (pd_callT call_lstG rfl T.n_list bt_list (pad_cons (pdv 0) pad_nil)) (pad_cons pd_int (pad_cons pd_int pad_nil))))))))), h⟩
def t_law_startK (K : PySem.W.Frag) (A : Adr) : DS :=
  (dSeq (dAsg (dC (.int 7)) (dName 1))
    (dSeq (dFor (dRng1 (dCons (dCB (lenK K) (dCons (dVar 0) dNil)) dNil)) (dName 2) (dAsg (dOp (oI (fun _ j => 0 < j) fun i j => .int (i % j)) (dOp addD (dOp addD (dOp addD (dOp mulD (dVar 1) (dC (.int 48271))) (dOp (oI (fun _ j => 0 < j) fun i j => .int (i % j)) (dCB intG (dCons (dOp (ixK K) (dVar 0) (dVar 2)) dNil)) (dC (.int 2147483647)))) (dVar 2)) (dC (.int 1))) (dC (.int 2147483647))) (dName 1)))
    (dRet (dLst (dCons (dVar 1) (dCons (dCB (lstK K) (dCons (dVar 0) dNil)) (dCons (dC (.int 0)) (dCons (dC (.int 0)) dNil))))))))
theorem ok_law_startK {f : Addr} {fd : FuncData} (T : Txt K mg A)  (F : L2.Fun K "_law_start" "_law_start" s_law_start f fd) (sp : DSp) (len : ∀ ds M Q E, sp ds M Q E → ds.length = P_law_start.length) (h : ∀ ds M Q E, sp ds M Q E → t_law_startK K A (ends Q E) (dstart N_law_start ds) M) :
    FnOk P w K mg base (L2.CX P w) (0 + 1) f fd P_law_start (liftSp K sp) :=
  okD F sc_law_start len fun cdv A outer s H E hr tk => ⟨t_law_startK K _, (pssd_cons (psd_set (i := 1) sc_law_start.nd rfl (Or.inl rfl) pd_int)
    (pssd_cons (psd_for (passes_of rfl) rfl (pid_rng1 rfl T.n_range (pad_cons (pd_callB call_lenK rfl T.n_len bt_len (pad_cons (pdv 0) pad_nil)) pad_nil)) (pgd_name (pg_name (i := 2) sc_law_start.nd rfl (Or.inl rfl))) (pssd_one (psd_set (i := 1) sc_law_start.nd rfl (Or.inl rfl) (pd_op op_modD (pd_op op_addD (pd_op op_addD (pd_op op_addD (pd_op op_mulD (pdv 1) pd_int) (pd_op op_modD (pd_callT call_intG rfl T.n_int bt_int (pad_cons (pd_ix ix_K (pdv 0) (pdv 2) (fun _ _ => rfl)) pad_nil)) pd_int)) (pdv 2)) pd_int) pd_int))))
    (pssd_one (psd_ret (pd_lst (pad_cons (pdv 1) (pad_cons (pd_callT call_lstK rfl T.n_list bt_list (pad_cons (pdv 0) pad_nil)) (pad_cons pd_int (pad_cons pd_int pad_nil))))))))), h⟩
def t_law_pick (K : PySem.W.Frag) (A : Adr) : DS :=
  (dSeq (dIfS (dB (dOp (oI0 fun i j => .bl (decide (j ≤ i))) (dOp ixG (dVar 0) (dC (.int 3))) (dVar 1))) (dSeq (dAsg (dCB intG (dCons (dOp ixG (dVar 0) (dC (.int 3))) dNil)) (dName 2))
    (dSeq (dAsg (dOp (oI CDivW fun i j => .int (i / j)) (dVar 2) (dVar 1)) (dGSub (dVar 0) (dC (.int 3))))
    (dRet (dOp (oI (fun _ j => 0 < j) fun i j => .int (i % j)) (dVar 2) (dVar 1))))) dNext)
    (dSeq (dAsg (dC (.int 11)) (dName 3))
    (dSeq (dIfS (dB (dOp (oI0 fun i j => .bl (decide (i < j))) (dOp ixG (dVar 0) (dC (.int 2))) (dCB lenG (dCons (dOp ixG (dVar 0) (dC (.int 1))) dNil)))) (dSeq (dAsg (dCB intG (dCons (dOp ixG (dOp ixG (dVar 0) (dC (.int 1))) (dOp ixG (dVar 0) (dC (.int 2)))) dNil)) (dName 3))
    (dSeq (dAsg (dOp addD (dOp ixG (dVar 0) (dC (.int 2))) (dC (.int 1))) (dGSub (dVar 0) (dC (.int 2))))
    (dSeq (dIfS (dB (dOp (oI0 fun i j => .bl (decide (i < j))) (dVar 3) (dC (.int 0)))) (dAsg (dOp (oI0 fun i j => .int (i - j)) (dC (.int 1)) (dVar 3)) (dName 3)) dNext)
    (dIfS (dB (dOp (oI0 fun i j => .bl (decide (j ≤ i))) (dVar 3) (dOp (oI CPow fun i j => .int (i ^ j.toNat)) (dC (.int 10)) (dC (.int 18))))) (dSeq (dAsg (dOp (oI CDivW fun i j => .int (i / j)) (dVar 3) (dVar 1)) (dGSub (dVar 0) (dC (.int 3))))
    (dRet (dOp (oI (fun _ j => 0 < j) fun i j => .int (i % j)) (dVar 3) (dVar 1)))) dNext)))) dNext)
    (dSeq (dAsg (dOp (oI (fun _ j => 0 < j) fun i j => .int (i % j)) (dOp mulD (dOp addD (dOp addD (dCB intG (dCons (dOp ixG (dVar 0) (dC (.int 0))) dNil)) (dOp (oI (fun _ j => 0 < j) fun i j => .int (i % j)) (dVar 3) (dC (.int 2147483647)))) (dC (.int 1))) (dC (.int 48271))) (dC (.int 2147483647))) (dName 4))
    (dSeq (dAsg (dOp (oI (fun _ j => 0 < j) fun i j => .int (i % j)) (dOp addD (dOp mulD (dVar 4) (dC (.int 69621))) (dC (.int 12345))) (dC (.int 2147483647))) (dGSub (dVar 0) (dC (.int 0))))
    (dRet (dOp (oI (fun _ j => 0 < j) fun i j => .int (i % j)) (dOp (oI CDivW fun i j => .int (i / j)) (dCB intG (dCons (dOp ixG (dVar 0) (dC (.int 0))) dNil)) (dC (.int 7))) (dVar 1))))))))
theorem ok_law_pick {f : Addr} {fd : FuncData} (T : Txt K mg A)  (F : L2.Fun K "_law_pick" "_law_pick" s_law_pick f fd) (sp : DSp) (len : ∀ ds M Q E, sp ds M Q E → ds.length = P_law_pick.length) (h : ∀ ds M Q E, sp ds M Q E → t_law_pick K A (ends Q E) (dstart N_law_pick ds) M) :
    FnOk P w K mg base (L2.CX P w) (0 + 1) f fd P_law_pick (liftSp K sp) :=
  okD F sc_law_pick len fun cdv A outer s H E hr tk => ⟨t_law_pick K _, (pssd_cons (psd_if (pt_cmpD op_geD (pd_ix ix_G (pdv 0) pd_int (fun _ _ => rfl)) (pdv 1) (nomark _)) (pssd_cons (psd_set (i := 2) sc_law_pick.nd rfl (Or.inl rfl) (pd_callT call_intG rfl T.n_int bt_int (pad_cons (pd_ix ix_G (pdv 0) pd_int (fun _ _ => rfl)) pad_nil)))
    (pssd_cons (psd_asg (pd_op op_fdivD (pdv 2) (pdv 1)) (pgd_sub (pdv 0) pd_int))
    (pssd_one (psd_ret (pd_op op_modD (pdv 2) (pdv 1)))))) pssd_nil)
    (pssd_cons (psd_set (i := 3) sc_law_pick.nd rfl (Or.inl rfl) pd_int)
    (pssd_cons (psd_if (pt_cmpD op_ltD (pd_ix ix_G (pdv 0) pd_int (fun _ _ => rfl)) (pd_callB call_lenG rfl T.n_len bt_len (pad_cons (pd_ix ix_G (pdv 0) pd_int (fun _ _ => rfl)) pad_nil)) (nomark _)) (pssd_cons (psd_set (i := 3) sc_law_pick.nd rfl (Or.inl rfl) (pd_callT call_intG rfl T.n_int bt_int (pad_cons (pd_ix ix_G (pd_ix ix_G (pdv 0) pd_int (fun _ _ => rfl)) (pd_ix ix_G (pdv 0) pd_int (fun _ _ => rfl)) (fun _ _ => rfl)) pad_nil)))
    (pssd_cons (psd_asg (pd_op op_addD (pd_ix ix_G (pdv 0) pd_int (fun _ _ => rfl)) pd_int) (pgd_sub (pdv 0) pd_int))
    (pssd_cons (psd_if (pt_cmpD op_ltD (pdv 3) pd_int (nomark _)) (pssd_one (psd_set (i := 3) sc_law_pick.nd rfl (Or.inl rfl) (pd_op op_subD pd_int (pdv 3)))) pssd_nil)
    (pssd_one (psd_if (pt_cmpD op_geD (pdv 3) (pd_op op_powD pd_int pd_int) (nomark _)) (pssd_cons (psd_asg (pd_op op_fdivD (pdv 3) (pdv 1)) (pgd_sub (pdv 0) pd_int))
    (pssd_one (psd_ret (pd_op op_modD (pdv 3) (pdv 1))))) pssd_nil))))) pssd_nil)
    (pssd_cons (psd_set (i := 4) sc_law_pick.nd rfl (Or.inl rfl) (pd_op op_modD (pd_op op_mulD (pd_op op_addD (pd_op op_addD (pd_callT call_intG rfl T.n_int bt_int (pad_cons (pd_ix ix_G (pdv 0) pd_int (fun _ _ => rfl)) pad_nil)) (pd_op op_modD (pdv 3) pd_int)) pd_int) pd_int) pd_int))
    (pssd_cons (psd_asg (pd_op op_modD (pd_op op_addD (pd_op op_mulD (pdv 4) pd_int) pd_int) pd_int) (pgd_sub (pdv 0) pd_int))
    (pssd_one (psd_ret (pd_op op_modD (pd_op op_fdivD (pd_callT call_intG rfl T.n_int bt_int (pad_cons (pd_ix ix_G (pdv 0) pd_int (fun _ _ => rfl)) pad_nil)) pd_int) (pdv 1))))))))), h⟩
def t_law_same (K : PySem.W.Frag) (A : Adr) (n : Nat) : DS :=
  (dSeq (dIfS (dTru (dCB (isiG K) (dCons (dVar 1) (dCons (dC (.ty "tuple")) dNil)))) (dSeq (dIfS (dOr (dNot (dTru (dCB (isiG K) (dCons (dVar 0) (dCons (dC (.ty "tuple")) dNil))))) (dB (dOp neD (dCB lenG (dCons (dVar 0) dNil)) (dCB lenG (dCons (dVar 1) dNil))))) (dRet (dC (.bl false))) dNext)
    (dRet (dCB (allG fun bs => bs.all id) (dCons (dLc (dRng1 (dCons (dCB lenG (dCons (dVar 1) dNil)) dNil)) (fun d τ => τ.set 2 (some d)) dYes (dCall (sp_law_same n) [] (dCons (dOp ixG (dVar 0) (dVar 2)) (dCons (dOp ixG (dVar 1) (dVar 2)) dNil))) [2]) dNil)))) dNext)
    (dSeq (dIfS (dB (dOp (isG false) (dVar 1) (dC .non))) (dRet (dOp (isG false) (dVar 0) (dC .non))) dNext)
    (dSeq (dIfS (dTru (dCB (isiG K) (dCons (dVar 1) (dCons (dC (.ty "str")) dNil)))) (dRet (dAndV (dCB (isiG K) (dCons (dVar 0) (dCons (dC (.ty "str")) dNil))) (dOp eqD (dVar 0) (dVar 1)))) dNext)
    (dSeq (dIfS (dTru (dCB (isiG K) (dCons (dVar 1) (dCons (dC (.ty "bool")) dNil)))) (dRet (dAndV (dCB (isiG K) (dCons (dVar 0) (dCons (dC (.ty "bool")) dNil))) (dOp eqD (dVar 0) (dVar 1)))) dNext)
    (dRet (dAndV (dCB (isiG K) (dCons (dVar 0) (dCons (dC (.ty "int")) dNil))) (dAndV (dNotV (dCB (isiG K) (dCons (dVar 0) (dCons (dC (.ty "bool")) dNil)))) (dOp eqD (dVar 0) (dVar 1)))))))))
theorem ok_law_same {f : Addr} {fd : FuncData} {n : Nat} (T : Txt K mg A) (G_law_same : FnD P w K mg base n "_law_same" P_law_same [] (sp_law_same n)) (F : L2.Fun K "_law_same" "_law_same" s_law_same f fd) (sp : DSp) (len : ∀ ds M Q E, sp ds M Q E → ds.length = P_law_same.length) (h : ∀ ds M Q E, sp ds M Q E → t_law_same K A n (ends Q E) (dstart N_law_same ds) M) :
    FnOk P w K mg base (L2.CX P w) (n + 1) f fd P_law_same (liftSp K sp) :=
  okD F sc_law_same len fun cdv A outer s H E hr tk => ⟨t_law_same K _ n, (pssd_cons (psd_if (ptd_tru (pd_callB call_isiG rfl T.n_isinstance bt_isinstance (pad_cons (pdv 1) (pad_cons (pd_ty rfl T.n_tuple bt_tuple) pad_nil)))) (pssd_cons (psd_if (PWD.pt (pwd_or (ptd_not (ptd_tru (pd_callB call_isiG rfl T.n_isinstance bt_isinstance (pad_cons (pdv 0) (pad_cons (pd_ty rfl T.n_tuple bt_tuple) pad_nil))))) (pwd_or1 (pt_cmpD (op_neG (u200 hr)) (pd_callB call_lenG rfl T.n_len bt_len (pad_cons (pdv 0) pad_nil)) (pd_callB call_lenG rfl T.n_len bt_len (pad_cons (pdv 1) pad_nil)) (nomark _))))) (pssd_one (psd_ret pd_bl)) pssd_nil)
    (pssd_one (psd_ret (pd_callB (call_allG rfl) rfl T.n_all bt_all (pad_cons (pd_lc (own := [("p", 2)]) (i := 2) rfl sc_law_same.nd (pid_rng1 rfl T.n_range (pad_cons (pd_callB call_lenG rfl T.n_len bt_len (pad_cons (pdv 1) pad_nil)) pad_nil)) (blkOk_by (N := N_law_same) (sc := defScope s_law_same) (by decide +kernel)) (by decide) (fun _ _ _ _ _ => pg_name (i := 2) sc_law_same.nd rfl (Or.inl rfl)) (fun _ _ _ _ _ => ptsd_nil) (fun _ _ _ _ _ => (pd_call G_law_same (hr.mono (by omega)) tk0 rfl (pad_cons (pd_ix ix_G (pdv 0) (pdv 2) (fun _ _ => rfl)) (pad_cons (pd_ix ix_G (pdv 1) (pdv 2) (fun _ _ => rfl)) pad_nil))))) pad_nil))))) pssd_nil)
    (pssd_cons (psd_if (pt_cmpD op_isG (pdv 1) pd_non (nomark _)) (pssd_one (psd_ret (pd_cmp op_isG (pdv 0) pd_non (nomark _)))) pssd_nil)
    (pssd_cons (psd_if (ptd_tru (pd_callB call_isiG rfl T.n_isinstance bt_isinstance (pad_cons (pdv 1) (pad_cons (pd_ty rfl T.n_str bt_str) pad_nil)))) (pssd_one (psd_ret (pd_and (pd_callB call_isiG rfl T.n_isinstance bt_isinstance (pad_cons (pdv 0) (pad_cons (pd_ty rfl T.n_str bt_str) pad_nil))) (pd_one (pd_cmp (op_eqG (u200 hr)) (pdv 0) (pdv 1) (nomark _)))))) pssd_nil)
    (pssd_cons (psd_if (ptd_tru (pd_callB call_isiG rfl T.n_isinstance bt_isinstance (pad_cons (pdv 1) (pad_cons (pd_ty rfl T.n_bool bt_bool) pad_nil)))) (pssd_one (psd_ret (pd_and (pd_callB call_isiG rfl T.n_isinstance bt_isinstance (pad_cons (pdv 0) (pad_cons (pd_ty rfl T.n_bool bt_bool) pad_nil))) (pd_one (pd_cmp (op_eqG (u200 hr)) (pdv 0) (pdv 1) (nomark _)))))) pssd_nil)
    (pssd_one (psd_ret (pd_and (pd_callB call_isiG rfl T.n_isinstance bt_isinstance (pad_cons (pdv 0) (pad_cons (pd_ty rfl T.n_int bt_int) pad_nil))) (pd_and (pd_not (pd_callB call_isiG rfl T.n_isinstance bt_isinstance (pad_cons (pdv 0) (pad_cons (pd_ty rfl T.n_bool bt_bool) pad_nil)))) (pd_one (pd_cmp (op_eqG (u200 hr)) (pdv 0) (pdv 1) (nomark _))))))))))), h⟩
def t_law_at (K : PySem.W.Frag) (A : Adr) : DS :=
  (dSeq (dIfS (dB (dOp (oI0 fun i j => .bl (decide (i < j))) (dVar 2) (dCB lenG (dCons (dVar 0) dNil)))) (dRet (dOp ixG (dVar 0) (dVar 2))) dNext)
    (dRet (dOp ixG (dVar 1) (dOp (oI (fun _ j => 0 < j) fun i j => .int (i % j)) (dCB intG (dCons (dOp (oI0 fun i j => .int (i - j)) (dVar 2) (dCB lenG (dCons (dVar 0) dNil))) dNil)) (dCB lenG (dCons (dVar 1) dNil))))))
theorem ok_law_at {f : Addr} {fd : FuncData} (T : Txt K mg A)  (F : L2.Fun K "_law_at" "_law_at" s_law_at f fd) (sp : DSp) (len : ∀ ds M Q E, sp ds M Q E → ds.length = P_law_at.length) (h : ∀ ds M Q E, sp ds M Q E → t_law_at K A (ends Q E) (dstart N_law_at ds) M) :
    FnOk P w K mg base (L2.CX P w) (0 + 1) f fd P_law_at (liftSp K sp) :=
  okD F sc_law_at len fun cdv A outer s H E hr tk => ⟨t_law_at K _, (pssd_cons (psd_if (pt_cmpD op_ltD (pdv 2) (pd_callB call_lenG rfl T.n_len bt_len (pad_cons (pdv 0) pad_nil)) (nomark _)) (pssd_one (psd_ret (pd_ix ix_G (pdv 0) (pdv 2) (fun _ _ => rfl)))) pssd_nil)
    (pssd_one (psd_ret (pd_ix ix_G (pdv 1) (pd_op op_modD (pd_callT call_intG rfl T.n_int bt_int (pad_cons (pd_op op_subD (pdv 2) (pd_callB call_lenG rfl T.n_len bt_len (pad_cons (pdv 0) pad_nil))) pad_nil)) (pd_callB call_lenG rfl T.n_len bt_len (pad_cons (pdv 1) pad_nil))) (fun _ _ => rfl))))), h⟩
def t_law_least (K : PySem.W.Frag) (A : Adr) : DS :=
  (dSeq (dAsg (dCB lenG (dCons (dVar 1) dNil)) (dName 2))
    (dSeq (dAsg (dVar 2) (dName 3))
    (dSeq (dFor (dRng2 (dCons (dC (.int 1)) (dCons (dVar 2) dNil))) (dName 4) (dIfS (dAnd (dB (dOp eqD (dVar 3) (dVar 2))) (dAnd (dB (dOp eqD (dOp (oI (fun _ j => 0 < j) fun i j => .int (i % j)) (dCB intG (dCons (dVar 2) dNil)) (dVar 4)) (dC (.int 0)))) (dTru (dCB (allG fun bs => bs.all id) (dCons (dLc (dRng1 (dCons (dVar 2) dNil)) (fun d τ => τ.set 7 (some d)) dYes (dOp eqD (dOp ixG (dVar 1) (dVar 7)) (dOp ixG (dVar 1) (dOp (oI0 fun i j => .int (i - j)) (dVar 7) (dVar 4)))) [7]) dNil))))) (dAsg (dVar 4) (dName 3)) dNext))
    (dSeq (dAsg (dOp addD (dVar 0) (dVar 1)) (dName 5))
    (dSeq (dAsg (dCB lenG (dCons (dVar 0) dNil)) (dName 6))
    (dSeq (dFor (dRng1 (dCons (dCB lenG (dCons (dVar 0) dNil)) dNil)) (dName 4) (dIfS (dAnd (dB (dOp eqD (dVar 6) (dOp (oI0 fun i j => .int (i - j)) (dCB lenG (dCons (dVar 0) dNil)) (dVar 4)))) (dB (dOp eqD (dOp ixG (dVar 5) (dOp (oI0 fun i j => .int (i - j)) (dVar 6) (dC (.int 1)))) (dOp ixG (dVar 5) (dOp addD (dOp (oI0 fun i j => .int (i - j)) (dVar 6) (dC (.int 1))) (dVar 3)))))) (dAsg (dOp (oI0 fun i j => .int (i - j)) (dVar 6) (dC (.int 1))) (dName 6)) dNext))
    (dRet (dTup (dCons (dSl (dVar 5) dNoP (dPart (dVar 6))) (dCons (dSl (dVar 5) (dPart (dVar 6)) (dPart (dOp addD (dVar 6) (dVar 3)))) dNil))))))))))
theorem ok_law_least {f : Addr} {fd : FuncData} (T : Txt K mg A)  (F : L2.Fun K "_law_least" "_law_least" s_law_least f fd) (sp : DSp) (len : ∀ ds M Q E, sp ds M Q E → ds.length = P_law_least.length) (h : ∀ ds M Q E, sp ds M Q E → t_law_least K A (ends Q E) (dstart N_law_least ds) M) :
    FnOk P w K mg base (L2.CX P w) (0 + 1) f fd P_law_least (liftSp K sp) :=
  okD F sc_law_least len fun cdv A outer s H E hr tk => ⟨t_law_least K _, (pssd_cons (psd_set (i := 2) sc_law_least.nd rfl (Or.inl rfl) (pd_callB call_lenG rfl T.n_len bt_len (pad_cons (pdv 1) pad_nil)))
    (pssd_cons (psd_set (i := 3) sc_law_least.nd rfl (Or.inl rfl) (pdv 2))
    (pssd_cons (psd_for (passes_of rfl) rfl (pid_rng2 rfl T.n_range (pad_cons pd_int (pad_cons (pdv 2) pad_nil))) (pgd_name (pg_name (i := 4) sc_law_least.nd rfl (Or.inr rfl))) (pssd_one (psd_if (PWD.pt (pwd_and (pt_cmpD (op_eqG (u200 hr)) (pdv 3) (pdv 2) (nomark _)) (pwd_and (pt_cmpD (op_eqG (u200 hr)) (pd_op op_modD (pd_callT call_intG rfl T.n_int bt_int (pad_cons (pdv 2) pad_nil)) (pdv 4)) pd_int (nomark _)) (pwd_and1 (ptd_tru (pd_callB (call_allG rfl) rfl T.n_all bt_all (pad_cons (pd_lc (own := [("p", 7)]) (i := 7) rfl sc_law_least.nd (pid_rng1 rfl T.n_range (pad_cons (pdv 2) pad_nil)) (blkOk_by (N := N_law_least) (sc := defScope s_law_least) (by decide +kernel)) (by decide) (fun _ _ _ _ _ => pg_name (i := 7) sc_law_least.nd rfl (Or.inl rfl)) (fun _ _ _ _ _ => ptsd_nil) (fun _ _ _ _ _ => (pd_cmp (op_eqG (u200 hr)) (pd_ix ix_G (pdv 1) (pdv 7) (fun _ _ => rfl)) (pd_ix ix_G (pdv 1) (pd_op op_subD (pdv 7) (pdv 4)) (fun _ _ => rfl)) (nomark _)))) pad_nil))))))) (pssd_one (psd_set (i := 3) sc_law_least.nd rfl (Or.inl rfl) (pdv 4))) pssd_nil)))
    (pssd_cons (psd_set (i := 5) sc_law_least.nd rfl (Or.inl rfl) (pd_op op_addD (pdv 0) (pdv 1)))
    (pssd_cons (psd_set (i := 6) sc_law_least.nd rfl (Or.inl rfl) (pd_callB call_lenG rfl T.n_len bt_len (pad_cons (pdv 0) pad_nil)))
    (pssd_cons (psd_for (passes_of rfl) rfl (pid_rng1 rfl T.n_range (pad_cons (pd_callB call_lenG rfl T.n_len bt_len (pad_cons (pdv 0) pad_nil)) pad_nil)) (pgd_name (pg_name (i := 4) sc_law_least.nd rfl (Or.inr rfl))) (pssd_one (psd_if (PWD.pt (pwd_and (pt_cmpD (op_eqG (u200 hr)) (pdv 6) (pd_op op_subD (pd_callB call_lenG rfl T.n_len bt_len (pad_cons (pdv 0) pad_nil)) (pdv 4)) (nomark _)) (pwd_and1 (pt_cmpD (op_eqG (u200 hr)) (pd_ix ix_G (pdv 5) (pd_op op_subD (pdv 6) pd_int) (fun _ _ => rfl)) (pd_ix ix_G (pdv 5) (pd_op op_addD (pd_op op_subD (pdv 6) pd_int) (pdv 3)) (fun _ _ => rfl)) (nomark _))))) (pssd_one (psd_set (i := 6) sc_law_least.nd rfl (Or.inl rfl) (pd_op op_subD (pdv 6) pd_int))) pssd_nil)))
    (pssd_one (psd_ret (pd_tup (pad_cons (pd_slice (pdv 5) pod_none (pod_some (pdv 6))) (pad_cons (pd_slice (pdv 5) (pod_some (pdv 6)) (pod_some (pd_op op_addD (pdv 6) (pdv 3)))) pad_nil))))))))))), h⟩
def t_law_behind (K : PySem.W.Frag) (A : Adr) : DS :=
  (dSeq (dAsg (dCB (mmG fun i j => if j > i then j else i) (dCons (dOp (oI0 fun i j => .int (i - j)) (dCB lenG (dCons (dVar 0) dNil)) (dVar 2)) (dCons (dC (.int 0)) dNil))) (dName 3))
    (dSeq (dAsg (dCB tupG (dCons (dLc (dRng1 (dCons (dVar 3) dNil)) (fun d τ => τ.set 6 (some d)) dYes (dCall sp_law_at [] (dCons (dVar 0) (dCons (dVar 1) (dCons (dOp addD (dVar 2) (dVar 6)) dNil)))) [6]) dNil)) (dName 4))
    (dSeq (dAsg (dCB tupG (dCons (dLc (dRng1 (dCons (dCB lenG (dCons (dVar 1) dNil)) dNil)) (fun d τ => τ.set 6 (some d)) dYes (dCall sp_law_at [] (dCons (dVar 0) (dCons (dVar 1) (dCons (dOp addD (dOp addD (dVar 2) (dVar 3)) (dVar 6)) dNil)))) [6]) dNil)) (dName 5))
    (dRet (dCall sp_law_least [] (dCons (dVar 4) (dCons (dVar 5) dNil)))))))
theorem ok_law_behind {f : Addr} {fd : FuncData} (T : Txt K mg A) (G_law_at : FnD P w K mg base 1 "_law_at" P_law_at [] sp_law_at) (G_law_least : FnD P w K mg base 1 "_law_least" P_law_least [] sp_law_least) (F : L2.Fun K "_law_behind" "_law_behind" s_law_behind f fd) (sp : DSp) (len : ∀ ds M Q E, sp ds M Q E → ds.length = P_law_behind.length) (h : ∀ ds M Q E, sp ds M Q E → t_law_behind K A (ends Q E) (dstart N_law_behind ds) M) :
    FnOk P w K mg base (L2.CX P w) (1 + 1) f fd P_law_behind (liftSp K sp) :=
  okD F sc_law_behind len fun cdv A outer s H E hr tk => ⟨t_law_behind K _, (pssd_cons (psd_set (i := 3) sc_law_behind.nd rfl (Or.inr rfl) (pd_callB (call_maxG rfl) rfl T.n_max bt_max (pad_cons (pd_op op_subD (pd_callB call_lenG rfl T.n_len bt_len (pad_cons (pdv 0) pad_nil)) (pdv 2)) (pad_cons pd_int pad_nil))))
    (pssd_cons (psd_set (i := 4) sc_law_behind.nd rfl (Or.inl rfl) (pd_callT call_tupG rfl T.n_tuple bt_tuple (pad_cons (pd_lc (own := [("p", 6)]) (i := 6) rfl sc_law_behind.nd (pid_rng1 rfl T.n_range (pad_cons (pdv 3) pad_nil)) (blkOk_by (N := N_law_behind) (sc := defScope s_law_behind) (by decide +kernel)) (by decide) (fun _ _ _ _ _ => pg_name (i := 6) sc_law_behind.nd rfl (Or.inl rfl)) (fun _ _ _ _ _ => ptsd_nil) (fun _ _ _ _ _ => (pd_call G_law_at (hr.mono (by omega)) tk0 rfl (pad_cons (pdv 0) (pad_cons (pdv 1) (pad_cons (pd_op op_addD (pdv 2) (pdv 6)) pad_nil)))))) pad_nil)))
    (pssd_cons (psd_set (i := 5) sc_law_behind.nd rfl (Or.inl rfl) (pd_callT call_tupG rfl T.n_tuple bt_tuple (pad_cons (pd_lc (own := [("p", 6)]) (i := 6) rfl sc_law_behind.nd (pid_rng1 rfl T.n_range (pad_cons (pd_callB call_lenG rfl T.n_len bt_len (pad_cons (pdv 1) pad_nil)) pad_nil)) (blkOk_by (N := N_law_behind) (sc := defScope s_law_behind) (by decide +kernel)) (by decide) (fun _ _ _ _ _ => pg_name (i := 6) sc_law_behind.nd rfl (Or.inl rfl)) (fun _ _ _ _ _ => ptsd_nil) (fun _ _ _ _ _ => (pd_call G_law_at (hr.mono (by omega)) tk0 rfl (pad_cons (pdv 0) (pad_cons (pdv 1) (pad_cons (pd_op op_addD (pd_op op_addD (pdv 2) (pdv 3)) (pdv 6)) pad_nil)))))) pad_nil)))
    (pssd_one (psd_ret (pd_call G_law_least (hr.mono (by omega)) tk rfl (pad_cons (pdv 4) (pad_cons (pdv 5) pad_nil)))))))), h⟩
def t_law_is_row (K : PySem.W.Frag) (A : Adr) : DS :=
  (dRet (dAndV (dCB (isiG K) (dCons (dVar 0) (dCons (dC (.ref A.Row)) dNil))) (dAndV (dCall (sp_law_same 4) [] (dCons (dFld K (dVar 0) "head") (dCons (dOp ixG (dVar 1) (dC (.int 0))) dNil))) (dCall (sp_law_same 4) [] (dCons (dFld K (dVar 0) "cycle") (dCons (dOp ixG (dVar 1) (dC (.int 1))) dNil))))))
theorem ok_law_is_row {f : Addr} {fd : FuncData} (T : Txt K mg A) (G_law_same : FnD P w K mg base 4 "_law_same" P_law_same [] (sp_law_same 4)) (F : L2.Fun K "_law_is_row" "_law_is_row" s_law_is_row f fd) (sp : DSp) (len : ∀ ds M Q E, sp ds M Q E → ds.length = P_law_is_row.length) (h : ∀ ds M Q E, sp ds M Q E → t_law_is_row K A (ends Q E) (dstart N_law_is_row ds) M) :
    FnOk P w K mg base (L2.CX P w) (4 + 1) f fd P_law_is_row (liftSp K sp) :=
  okD F sc_law_is_row len fun cdv A outer s H E hr tk => ⟨t_law_is_row K _, (pssd_one (psd_ret (pd_and (pd_callB call_isiG rfl T.n_isinstance bt_isinstance (pad_cons (pdv 0) (pad_cons (pd_cls rfl T.m_Row) pad_nil))) (pd_and (pd_call G_law_same (hr.mono (by omega)) tk rfl (pad_cons (pd_fld (pdv 0)) (pad_cons (pd_ix ix_G (pdv 1) pd_int (fun _ _ => rfl)) pad_nil))) (pd_one (pd_call G_law_same (hr.mono (by omega)) tk rfl (pad_cons (pd_fld (pdv 0)) (pad_cons (pd_ix ix_G (pdv 1) pd_int (fun _ _ => rfl)) pad_nil)))))))), h⟩
def t_law_row (K : PySem.W.Frag) (A : Adr) : DS :=
  (dSeq (dAsg (dOp ixG (dLst (dCons (dC (.int 2)) (dCons (dC (.int 3)) (dCons (dOp (oI CPow fun i j => .int (i ^ j.toNat)) (dC (.int 10)) (dC (.int 60))) dNil)))) (dCall sp_law_pick [] (dCons (dVar 0) (dCons (dC (.int 3)) dNil)))) (dName 1))
    (dSeq (dAsg (dLc (dRng1 (dCons (dOp addD (dC (.int 1)) (dCall sp_law_pick [] (dCons (dVar 0) (dCons (dOp ixG (dLst (dCons (dC (.int 3)) (dCons (dC (.int 8)) (dCons (dC (.int 40)) dNil)))) (dCall sp_law_pick [] (dCons (dVar 0) (dCons (dC (.int 3)) dNil)))) dNil)))) dNil)) (fun d τ => τ.set 8 (some d)) dYes (dCall sp_law_pick [] (dCons (dVar 0) (dCons (dVar 1) dNil))) [8]) (dName 2))
    (dSeq (dAsg (dOp mulD (dVar 2) (dOp addD (dC (.int 1)) (dCall sp_law_pick [] (dCons (dVar 0) (dCons (dOp ixG (dLst (dCons (dC (.int 2)) (dCons (dC (.int 4)) (dCons (dC (.int 10)) dNil)))) (dCall sp_law_pick [] (dCons (dVar 0) (dCons (dC (.int 3)) dNil)))) dNil))))) (dName 3))
    (dSeq (dIfS (dB (dOp eqD (dCall sp_law_pick [] (dCons (dVar 0) (dCons (dC (.int 3)) dNil))) (dC (.int 0)))) (dSeq (dAsg (dCall sp_law_pick [] (dCons (dVar 0) (dCons (dCB lenG (dCons (dVar 3) dNil)) dNil))) (dName 4))
    (dAsg (dOp (oI (fun _ j => 0 < j) fun i j => .int (i % j)) (dCB intG (dCons (dOp addD (dOp ixG (dVar 3) (dVar 4)) (dC (.int 1))) dNil)) (dVar 1)) (dGSub (dVar 3) (dVar 4)))) dNext)
    (dSeq (dAsg (dLc (dRng1 (dCons (dCall sp_law_pick [] (dCons (dVar 0) (dCons (dOp ixG (dLst (dCons (dC (.int 1)) (dCons (dC (.int 5)) (dCons (dC (.int 200)) dNil)))) (dCall sp_law_pick [] (dCons (dVar 0) (dCons (dC (.int 3)) dNil)))) dNil))) dNil)) (fun d τ => τ.set 8 (some d)) dYes (dCall sp_law_pick [] (dCons (dVar 0) (dCons (dVar 1) dNil))) [8]) (dName 5))
    (dSeq (dAsg (dCall sp_law_pick [] (dCons (dVar 0) (dCons (dOp ixG (dLst (dCons (dC (.int 1)) (dCons (dC (.int 9)) (dCons (dC (.int 200)) dNil)))) (dCall sp_law_pick [] (dCons (dVar 0) (dCons (dC (.int 3)) dNil)))) dNil))) (dName 6))
    (dSeq (dAsg (dOp mulD (dVar 3) (dOp addD (dOp (oI CDivW fun i j => .int (i / j)) (dVar 6) (dCB lenG (dCons (dVar 3) dNil))) (dC (.int 1)))) (dName 7))
    (dSeq (dAsg (dOp addD (dVar 5) (dSl (dVar 7) (dPart (dOp (oI0 fun i j => .int (i - j)) (dCB lenG (dCons (dVar 7) dNil)) (dVar 6))) dNoP)) (dName 5))
    (dSeq (dIfS (dAnd (dB (dOp (oI0 fun i j => .bl (decide (j < i))) (dCB lenG (dCons (dVar 5) dNil)) (dC (.int 0)))) (dB (dOp eqD (dCall sp_law_pick [] (dCons (dVar 0) (dCons (dC (.int 3)) dNil))) (dC (.int 0))))) (dSeq (dAsg (dCall sp_law_pick [] (dCons (dVar 0) (dCons (dCB lenG (dCons (dVar 5) dNil)) dNil))) (dName 4))
    (dAsg (dOp (oI (fun _ j => 0 < j) fun i j => .int (i % j)) (dCB intG (dCons (dOp addD (dOp ixG (dVar 5) (dVar 4)) (dC (.int 1))) dNil)) (dVar 1)) (dGSub (dVar 5) (dVar 4)))) dNext)
    (dRet (dLst (dCons (dCB tupG (dCons (dVar 5) dNil)) (dCons (dCB tupG (dCons (dVar 3) dNil)) (dCons (dVar 1) dNil))))))))))))))
theorem ok_law_row {f : Addr} {fd : FuncData} (T : Txt K mg A) (G_law_pick : FnD P w K mg base 1 "_law_pick" P_law_pick [] sp_law_pick) (F : L2.Fun K "_law_row" "_law_row" s_law_row f fd) (sp : DSp) (len : ∀ ds M Q E, sp ds M Q E → ds.length = P_law_row.length) (h : ∀ ds M Q E, sp ds M Q E → t_law_row K A (ends Q E) (dstart N_law_row ds) M) :
    FnOk P w K mg base (L2.CX P w) (1 + 1) f fd P_law_row (liftSp K sp) :=
  okD F sc_law_row len fun cdv A outer s H E hr tk => ⟨t_law_row K _, (pssd_cons (psd_set (i := 1) sc_law_row.nd rfl (Or.inr rfl) (pd_ix ix_G (pd_lst (pad_cons pd_int (pad_cons pd_int (pad_cons (pd_op op_powD pd_int pd_int) pad_nil)))) (pd_call G_law_pick (hr.mono (by omega)) tk rfl (pad_cons (pdv 0) (pad_cons pd_int pad_nil))) (fun _ _ => rfl)))
    (pssd_cons (psd_setLc (own := [("k", 8)]) (i := 8) (j := 2) rfl sc_law_row.nd rfl rfl (sw_true rfl rfl rfl (by decide +kernel)) (pid_rng1 rfl T.n_range (pad_cons (pd_op op_addD pd_int (pd_call G_law_pick (hr.mono (by omega)) tk rfl (pad_cons (pdv 0) (pad_cons (pd_ix ix_G (pd_lst (pad_cons pd_int (pad_cons pd_int (pad_cons pd_int pad_nil)))) (pd_call G_law_pick (hr.mono (by omega)) tk rfl (pad_cons (pdv 0) (pad_cons pd_int pad_nil))) (fun _ _ => rfl)) pad_nil)))) pad_nil)) (blkOk_by (N := N_law_row) (sc := defScope s_law_row) (by decide +kernel)) (by decide) (fun _ _ _ _ _ => pg_name (i := 8) sc_law_row.nd rfl (Or.inl rfl)) (fun _ _ _ _ _ => ptsd_nil) (fun _ _ _ _ _ => (pd_call G_law_pick (hr.mono (by omega)) tk0 rfl (pad_cons (pdv 0) (pad_cons (pdv 1) pad_nil)))))
    (pssd_cons (psd_set (i := 3) sc_law_row.nd rfl (Or.inl rfl) (pd_op op_mulD (pdv 2) (pd_op op_addD pd_int (pd_call G_law_pick (hr.mono (by omega)) tk rfl (pad_cons (pdv 0) (pad_cons (pd_ix ix_G (pd_lst (pad_cons pd_int (pad_cons pd_int (pad_cons pd_int pad_nil)))) (pd_call G_law_pick (hr.mono (by omega)) tk rfl (pad_cons (pdv 0) (pad_cons pd_int pad_nil))) (fun _ _ => rfl)) pad_nil))))))
    (pssd_cons (psd_if (pt_cmpD (op_eqG (u200 hr)) (pd_call G_law_pick (hr.mono (by omega)) tk rfl (pad_cons (pdv 0) (pad_cons pd_int pad_nil))) pd_int (nomark _)) (pssd_cons (psd_set (i := 4) sc_law_row.nd rfl (Or.inl rfl) (pd_call G_law_pick (hr.mono (by omega)) tk rfl (pad_cons (pdv 0) (pad_cons (pd_callB call_lenG rfl T.n_len bt_len (pad_cons (pdv 3) pad_nil)) pad_nil))))
    (pssd_one (psd_asg (pd_op op_modD (pd_callT call_intG rfl T.n_int bt_int (pad_cons (pd_op op_addD (pd_ix ix_G (pdv 3) (pdv 4) (fun _ _ => rfl)) pd_int) pad_nil)) (pdv 1)) (pgd_sub (pdv 3) (pdv 4))))) pssd_nil)
    (pssd_cons (psd_setLc (own := [("k", 8)]) (i := 8) (j := 5) rfl sc_law_row.nd rfl rfl (sw_true rfl rfl rfl (by decide +kernel)) (pid_rng1 rfl T.n_range (pad_cons (pd_call G_law_pick (hr.mono (by omega)) tk rfl (pad_cons (pdv 0) (pad_cons (pd_ix ix_G (pd_lst (pad_cons pd_int (pad_cons pd_int (pad_cons pd_int pad_nil)))) (pd_call G_law_pick (hr.mono (by omega)) tk rfl (pad_cons (pdv 0) (pad_cons pd_int pad_nil))) (fun _ _ => rfl)) pad_nil))) pad_nil)) (blkOk_by (N := N_law_row) (sc := defScope s_law_row) (by decide +kernel)) (by decide) (fun _ _ _ _ _ => pg_name (i := 8) sc_law_row.nd rfl (Or.inl rfl)) (fun _ _ _ _ _ => ptsd_nil) (fun _ _ _ _ _ => (pd_call G_law_pick (hr.mono (by omega)) tk0 rfl (pad_cons (pdv 0) (pad_cons (pdv 1) pad_nil)))))
    (pssd_cons (psd_set (i := 6) sc_law_row.nd rfl (Or.inl rfl) (pd_call G_law_pick (hr.mono (by omega)) tk rfl (pad_cons (pdv 0) (pad_cons (pd_ix ix_G (pd_lst (pad_cons pd_int (pad_cons pd_int (pad_cons pd_int pad_nil)))) (pd_call G_law_pick (hr.mono (by omega)) tk rfl (pad_cons (pdv 0) (pad_cons pd_int pad_nil))) (fun _ _ => rfl)) pad_nil))))
    (pssd_cons (psd_set (i := 7) sc_law_row.nd rfl (Or.inl rfl) (pd_op op_mulD (pdv 3) (pd_op op_addD (pd_op op_fdivD (pdv 6) (pd_callB call_lenG rfl T.n_len bt_len (pad_cons (pdv 3) pad_nil))) pd_int)))
    (pssd_cons (psd_set (i := 5) sc_law_row.nd rfl (Or.inl rfl) (pd_op op_addD (pdv 5) (pd_slice (pdv 7) (pod_some (pd_op op_subD (pd_callB call_lenG rfl T.n_len bt_len (pad_cons (pdv 7) pad_nil)) (pdv 6))) pod_none)))
    (pssd_cons (psd_if (PWD.pt (pwd_and (pt_cmpD op_gtD (pd_callB call_lenG rfl T.n_len bt_len (pad_cons (pdv 5) pad_nil)) pd_int (nomark _)) (pwd_and1 (pt_cmpD (op_eqG (u200 hr)) (pd_call G_law_pick (hr.mono (by omega)) tk rfl (pad_cons (pdv 0) (pad_cons pd_int pad_nil))) pd_int (nomark _))))) (pssd_cons (psd_set (i := 4) sc_law_row.nd rfl (Or.inl rfl) (pd_call G_law_pick (hr.mono (by omega)) tk rfl (pad_cons (pdv 0) (pad_cons (pd_callB call_lenG rfl T.n_len bt_len (pad_cons (pdv 5) pad_nil)) pad_nil))))
    (pssd_one (psd_asg (pd_op op_modD (pd_callT call_intG rfl T.n_int bt_int (pad_cons (pd_op op_addD (pd_ix ix_G (pdv 5) (pdv 4) (fun _ _ => rfl)) pd_int) pad_nil)) (pdv 1)) (pgd_sub (pdv 5) (pdv 4))))) pssd_nil)
    (pssd_one (psd_ret (pd_lst (pad_cons (pd_callT call_tupG rfl T.n_tuple bt_tuple (pad_cons (pdv 5) pad_nil)) (pad_cons (pd_callT call_tupG rfl T.n_tuple bt_tuple (pad_cons (pdv 3) pad_nil)) (pad_cons (pdv 1) pad_nil))))))))))))))), h⟩
def t_law_other (K : PySem.W.Frag) (A : Adr) : DS :=
  (dSeq (dAsg (dCall sp_law_pick [] (dCons (dVar 0) (dCons (dCB (mmG fun i j => if j < i then j else i) (dCons (dCB lenG (dCons (dVar 2) dNil)) (dCons (dOp (oI0 fun i j => .int (i - j)) (dC (.int 401)) (dCB lenG (dCons (dVar 1) dNil))) dNil))) dNil))) (dName 3))
    (dSeq (dAsg (dOp mulD (dOp addD (dSl (dVar 2) (dPart (dVar 3)) dNoP) (dSl (dVar 2) dNoP (dPart (dVar 3)))) (dOp addD (dC (.int 1)) (dCall sp_law_pick [] (dCons (dVar 0) (dCons (dCB (mmG fun i j => if j < i then j else i) (dCons (dC (.int 3)) (dCons (dOp (oI CDivW fun i j => .int (i / j)) (dC (.int 400)) (dCB lenG (dCons (dVar 2) dNil))) dNil))) dNil))))) (dName 4))
    (dRet (dLst (dCons (dOp addD (dVar 1) (dSl (dVar 2) dNoP (dPart (dVar 3)))) (dCons (dVar 4) dNil))))))
theorem ok_law_other {f : Addr} {fd : FuncData} (T : Txt K mg A) (G_law_pick : FnD P w K mg base 1 "_law_pick" P_law_pick [] sp_law_pick) (F : L2.Fun K "_law_other" "_law_other" s_law_other f fd) (sp : DSp) (len : ∀ ds M Q E, sp ds M Q E → ds.length = P_law_other.length) (h : ∀ ds M Q E, sp ds M Q E → t_law_other K A (ends Q E) (dstart N_law_other ds) M) :
    FnOk P w K mg base (L2.CX P w) (1 + 1) f fd P_law_other (liftSp K sp) :=
  okD F sc_law_other len fun cdv A outer s H E hr tk => ⟨t_law_other K _, (pssd_cons (psd_set (i := 3) sc_law_other.nd rfl (Or.inl rfl) (pd_call G_law_pick (hr.mono (by omega)) tk rfl (pad_cons (pdv 0) (pad_cons (pd_callB (call_minG rfl) rfl T.n_min bt_min (pad_cons (pd_callB call_lenG rfl T.n_len bt_len (pad_cons (pdv 2) pad_nil)) (pad_cons (pd_op op_subD pd_int (pd_callB call_lenG rfl T.n_len bt_len (pad_cons (pdv 1) pad_nil))) pad_nil))) pad_nil))))
    (pssd_cons (psd_set (i := 4) sc_law_other.nd rfl (Or.inl rfl) (pd_op op_mulD (pd_op op_addD (pd_slice (pdv 2) (pod_some (pdv 3)) pod_none) (pd_slice (pdv 2) pod_none (pod_some (pdv 3)))) (pd_op op_addD pd_int (pd_call G_law_pick (hr.mono (by omega)) tk rfl (pad_cons (pdv 0) (pad_cons (pd_callB (call_minG rfl) rfl T.n_min bt_min (pad_cons pd_int (pad_cons (pd_op op_fdivD pd_int (pd_callB call_lenG rfl T.n_len bt_len (pad_cons (pdv 2) pad_nil))) pad_nil))) pad_nil))))))
    (pssd_one (psd_ret (pd_lst (pad_cons (pd_op op_addD (pdv 1) (pd_slice (pdv 2) pod_none (pod_some (pdv 3)))) (pad_cons (pdv 4) pad_nil))))))), h⟩
def t_law_bent (K : PySem.W.Frag) (A : Adr) : DS :=
  (dSeq (dAsg (dCall sp_law_pick [] (dCons (dVar 0) (dCons (dOp addD (dCB lenG (dCons (dVar 1) dNil)) (dCB lenG (dCons (dVar 2) dNil))) dNil))) (dName 4))
    (dSeq (dAsg (dCB lstG (dCons (dOp addD (dVar 1) (dVar 2)) dNil)) (dName 5))
    (dSeq (dAsg (dOp (oI (fun _ j => 0 < j) fun i j => .int (i % j)) (dCB intG (dCons (dOp addD (dOp ixG (dVar 5) (dVar 4)) (dC (.int 1))) dNil)) (dVar 3)) (dGSub (dVar 5) (dVar 4)))
    (dRet (dLst (dCons (dCB tupG (dCons (dSl (dVar 5) dNoP (dPart (dCB lenG (dCons (dVar 1) dNil)))) dNil)) (dCons (dCB tupG (dCons (dSl (dVar 5) (dPart (dCB lenG (dCons (dVar 1) dNil))) dNoP) dNil)) (dCons (dVar 4) dNil))))))))
theorem ok_law_bent {f : Addr} {fd : FuncData} (T : Txt K mg A) (G_law_pick : FnD P w K mg base 1 "_law_pick" P_law_pick [] sp_law_pick) (F : L2.Fun K "_law_bent" "_law_bent" s_law_bent f fd) (sp : DSp) (len : ∀ ds M Q E, sp ds M Q E → ds.length = P_law_bent.length) (h : ∀ ds M Q E, sp ds M Q E → t_law_bent K A (ends Q E) (dstart N_law_bent ds) M) :
    FnOk P w K mg base (L2.CX P w) (1 + 1) f fd P_law_bent (liftSp K sp) :=
  okD F sc_law_bent len fun cdv A outer s H E hr tk => ⟨t_law_bent K _, (pssd_cons (psd_set (i := 4) sc_law_bent.nd rfl (Or.inl rfl) (pd_call G_law_pick (hr.mono (by omega)) tk rfl (pad_cons (pdv 0) (pad_cons (pd_op op_addD (pd_callB call_lenG rfl T.n_len bt_len (pad_cons (pdv 1) pad_nil)) (pd_callB call_lenG rfl T.n_len bt_len (pad_cons (pdv 2) pad_nil))) pad_nil))))
    (pssd_cons (psd_set (i := 5) sc_law_bent.nd rfl (Or.inl rfl) (pd_callT call_lstG rfl T.n_list bt_list (pad_cons (pd_op op_addD (pdv 1) (pdv 2)) pad_nil)))
    (pssd_cons (psd_asg (pd_op op_modD (pd_callT call_intG rfl T.n_int bt_int (pad_cons (pd_op op_addD (pd_ix ix_G (pdv 5) (pdv 4) (fun _ _ => rfl)) pd_int) pad_nil)) (pdv 3)) (pgd_sub (pdv 5) (pdv 4)))
    (pssd_one (psd_ret (pd_lst (pad_cons (pd_callT call_tupG rfl T.n_tuple bt_tuple (pad_cons (pd_slice (pdv 5) pod_none (pod_some (pd_callB call_lenG rfl T.n_len bt_len (pad_cons (pdv 1) pad_nil)))) pad_nil)) (pad_cons (pd_callT call_tupG rfl T.n_tuple bt_tuple (pad_cons (pd_slice (pdv 5) (pod_some (pd_callB call_lenG rfl T.n_len bt_len (pad_cons (pdv 1) pad_nil))) pod_none) pad_nil)) (pad_cons (pdv 4) pad_nil))))))))), h⟩
def t_law_asked (K : PySem.W.Frag) (A : Adr) : DS :=
  (dTryAs K (.ref A.ProofsError) 5 (dSeq (dIfS (dB (dOp eqD (dVar 0) (dC (.int 0)))) (dRet (dTup (dCons (dC (.str "told")) (dCons (dIxO A.Row (sp_Row_getitem A) (dVar 1) (dVar 2)) dNil)))) dNext)
    (dSeq (dIfS (dB (dOp eqD (dVar 0) (dC (.int 1)))) (dRet (dTup (dCons (dC (.str "told")) (dCons (dMeth A.Row "start" (sp_Row_start A) [] (dVar 1) (dCons (dVar 2) dNil)) dNil)))) dNext)
    (dSeq (dIfS (dB (dOp eqD (dVar 0) (dC (.int 2)))) (dRet (dTup (dCons (dC (.str "told")) (dCons (dFld K (dMeth A.Row "after" (sp_Row_after A) [] (dVar 1) (dCons (dVar 2) dNil)) "head") dNil)))) dNext)
    (dRet (dTup (dCons (dC (.str "told")) (dCons (dFld K (dMake A.Row (sp_Row_init A) [] (dCons (dVar 3) (dCons (dVar 4) dNil))) "head") dNil))))))) (fun y a => (dSeq (dAsg (dOrV (dCB (isxG K y a) (dCons (dVar 5) (dCons (dC (.ref A.SizeMismatch)) dNil))) (dOrV (dCB (isxG K y a) (dCons (dVar 5) (dCons (dC (.ref A.TooLarge)) dNil))) (dCB (isxG K y a) (dCons (dVar 5) (dCons (dC (.ref A.InvalidTerm)) dNil))))) (dName 6))
    (dRet (dTup (dCons (dC (.str "refused")) (dCons (dAndV (dCB (isxG K y a) (dCons (dVar 5) (dCons (dC (.ref A.OutOfRange)) dNil))) (dCB (isxG K y a) (dCons (dVar 5) (dCons (dC (.ty "ValueError")) dNil)))) (dCons (dVar 6) dNil))))))))
theorem ok_law_asked {f : Addr} {fd : FuncData} (T : Txt K mg A) (G_Row_getitem : MetD P w K mg base 1 A.Row "__getitem__" P_Row_getitem [] (sp_Row_getitem A)) (G_Row_init : MakD P w K mg base 1 "Row" A.Row P_Row_init [] (sp_Row_init A)) (G_Row_after : MetD P w K mg base 4 A.Row "after" P_Row_after [] (sp_Row_after A)) (G_Row_start : MetD P w K mg base 3 A.Row "start" P_Row_start [] (sp_Row_start A)) (F : L2.Fun K "_law_asked" "_law_asked" s_law_asked f fd) (sp : DSp) (len : ∀ ds M Q E, sp ds M Q E → ds.length = P_law_asked.length) (h : ∀ ds M Q E, sp ds M Q E → t_law_asked K A (ends Q E) (dstart N_law_asked ds) M) :
    FnOk P w K mg base (L2.CX P w) (4 + 1) f fd P_law_asked (liftSp K sp) :=
  okD F sc_law_asked len fun cdv A outer s H E hr tk => ⟨t_law_asked K _, (pssd_one (psd_try_as (i := 5) rfl rfl sc_law_asked.nd rfl rfl ⟨rfl, by decide, Or.inl T.m_ProofsError⟩ tk (fun W' pn xe tk hpo => (pssd_cons (psd_if (pt_cmpD (op_eqG (u200 hr)) (pdv 0) pd_int (nomark _)) (pssd_one (psd_ret (pd_tup (pad_cons pd_str (pad_cons (pd_ixO G_Row_getitem T.f_Row_getitem (hr.mono (by omega)) tk (pdv 1) (pdv 2)) pad_nil))))) pssd_nil)
    (pssd_cons (psd_if (pt_cmpD (op_eqG (u200 hr)) (pdv 0) pd_int (nomark _)) (pssd_one (psd_ret (pd_tup (pad_cons pd_str (pad_cons (pd_meth G_Row_start (hr.mono (by omega)) tk (pdv 1) (pad_cons (pdv 2) pad_nil)) pad_nil))))) pssd_nil)
    (pssd_cons (psd_if (pt_cmpD (op_eqG (u200 hr)) (pdv 0) pd_int (nomark _)) (pssd_one (psd_ret (pd_tup (pad_cons pd_str (pad_cons (pd_fld (pd_meth G_Row_after (hr.mono (by omega)) tk (pdv 1) (pad_cons (pdv 2) pad_nil))) pad_nil))))) pssd_nil)
    (pssd_one (psd_ret (pd_tup (pad_cons pd_str (pad_cons (pd_fld (pd_make G_Row_init (hr.mono (by omega)) tk rfl (pad_cons (pdv 3) (pad_cons (pdv 4) pad_nil)))) pad_nil))))))))) (fun y a oe pn hz hf => (pssd_cons (psd_set (i := 6) sc_law_asked.nd rfl (Or.inl rfl) (pd_or (pd_callB (call_isxG hz hf) rfl T.n_isinstance bt_isinstance (pad_cons (pdv 5) (pad_cons (pd_cls rfl T.m_SizeMismatch) pad_nil))) (pd_or (pd_callB (call_isxG hz hf) rfl T.n_isinstance bt_isinstance (pad_cons (pdv 5) (pad_cons (pd_cls rfl T.m_TooLarge) pad_nil))) (pd_one (pd_callB (call_isxG hz hf) rfl T.n_isinstance bt_isinstance (pad_cons (pdv 5) (pad_cons (pd_cls rfl T.m_InvalidTerm) pad_nil)))))))
    (pssd_one (psd_ret (pd_tup (pad_cons pd_str (pad_cons (pd_and (pd_callB (call_isxG hz hf) rfl T.n_isinstance bt_isinstance (pad_cons (pdv 5) (pad_cons (pd_cls rfl T.m_OutOfRange) pad_nil))) (pd_one (pd_callB (call_isxG hz hf) rfl T.n_isinstance bt_isinstance (pad_cons (pdv 5) (pad_cons (pd_ty rfl T.n_ValueError bt_ValueError) pad_nil))))) (pad_cons (pdv 6) pad_nil)))))))))), h⟩
def t_law_refusals (K : PySem.W.Frag) (A : Adr) : DS :=
  (dSeq (dAsg (dTup (dCons (dC (.str "refused")) (dCons (dC (.bl true)) (dCons (dC (.bl false)) dNil)))) (dName 4))
    (dSeq (dAsg (dOp (oI0 fun i j => .int (i - j)) (dNeg (dC (.int 1))) (dCall sp_law_pick [] (dCons (dVar 0) (dCons (dOp ixG (dLst (dCons (dC (.int 2)) (dCons (dOp (oI CPow fun i j => .int (i ^ j.toNat)) (dC (.int 10)) (dC (.int 58))) dNil))) (dCall sp_law_pick [] (dCons (dVar 0) (dCons (dC (.int 2)) dNil)))) dNil)))) (dName 5))
    (dSeq (dFor (dRng1 (dCons (dC (.int 3)) dNil)) (dName 6) (dIfS (dNot (dTru (dCall (sp_law_same 4) [] (dCons (dCall (sp_law_asked A) [] (dCons (dVar 6) (dCons (dVar 1) (dCons (dVar 5) (dCons (dVar 2) (dCons (dVar 3) dNil)))))) (dCons (dVar 4) dNil))))) (dRet (dC (.bl false))) dNext))
    (dSeq (dAsg (dCall sp_law_pick [] (dCons (dVar 0) (dCons (dOp addD (dCB lenG (dCons (dVar 2) dNil)) (dCB lenG (dCons (dVar 3) dNil))) dNil))) (dName 7))
    (dSeq (dAsg (dCB lstG (dCons (dOp addD (dVar 2) (dVar 3)) dNil)) (dName 8))
    (dSeq (dAsg (dVar 5) (dGSub (dVar 8) (dVar 7)))
    (dSeq (dAsg (dCB tupG (dCons (dSl (dVar 8) dNoP (dPart (dCB lenG (dCons (dVar 2) dNil)))) dNil)) (dName 9))
    (dSeq (dAsg (dCB tupG (dCons (dSl (dVar 8) (dPart (dCB lenG (dCons (dVar 2) dNil))) dNoP) dNil)) (dName 10))
    (dSeq (dFor (dIter (dLst (dCons (dTup (dCons (dVar 9) (dCons (dVar 10) dNil))) (dCons (dTup (dCons (dVar 2) (dCons (dTup dNil) dNil))) (dCons (dTup (dCons (dVar 9) (dCons (dTup dNil) dNil))) (dCons (dTup (dCons (dTup dNil) (dCons (dTup dNil) dNil))) (dCons (dTup (dCons (dTup (dCons (dVar 5) dNil)) (dCons (dVar 3) dNil))) (dCons (dTup (dCons (dVar 2) (dCons (dTup (dCons (dVar 5) dNil)) dNil))) dNil)))))))) (dName 11) (dIfS (dNot (dTru (dCall (sp_law_same 4) [] (dCons (dCall (sp_law_asked A) [] (dCons (dC (.int 3)) (dCons (dVar 1) (dCons (dC (.int 0)) (dCons (dOp ixG (dVar 11) (dC (.int 0))) (dCons (dOp ixG (dVar 11) (dC (.int 1))) dNil)))))) (dCons (dVar 4) dNil))))) (dRet (dC (.bl false))) dNext))
    (dSeq (dAsg (dC (.int 0)) (dGSub (dVar 8) (dVar 7)))
    (dSeq (dAsg (dCB tupG (dCons (dSl (dVar 8) dNoP (dPart (dCB lenG (dCons (dVar 2) dNil)))) dNil)) (dName 9))
    (dSeq (dAsg (dCB tupG (dCons (dSl (dVar 8) (dPart (dCB lenG (dCons (dVar 2) dNil))) dNoP) dNil)) (dName 10))
    (dSeq (dIfS (dNot (dTru (dCall (sp_law_is_row A) [] (dCons (dMeth A.Row "least" (sp_Row_least A) [] (dMake A.Row (sp_Row_init A) [] (dCons (dVar 9) (dCons (dVar 10) dNil))) dNil) (dCons (dCall sp_law_least [] (dCons (dVar 9) (dCons (dVar 10) dNil))) dNil))))) (dRet (dC (.bl false))) dNext)
    (dSeq (dIfS (dNot (dTru (dCall (sp_law_same 4) [] (dCons (dCall (sp_law_asked A) [] (dCons (dC (.int 0)) (dCons (dVar 1) (dCons (dC (.int 0)) (dCons (dVar 2) (dCons (dVar 3) dNil)))))) (dCons (dTup (dCons (dC (.str "told")) (dCons (dCall sp_law_at [] (dCons (dVar 2) (dCons (dVar 3) (dCons (dC (.int 0)) dNil)))) dNil))) dNil))))) (dRet (dC (.bl false))) dNext)
    (dSeq (dIfS (dNot (dTru (dCall (sp_law_same 4) [] (dCons (dCall (sp_law_asked A) [] (dCons (dC (.int 1)) (dCons (dVar 1) (dCons (dC (.int 0)) (dCons (dVar 2) (dCons (dVar 3) dNil)))))) (dCons (dTup (dCons (dC (.str "told")) (dCons (dTup dNil) dNil))) dNil))))) (dRet (dC (.bl false))) dNext)
    (dRet (dCall (sp_law_same 4) [] (dCons (dCall (sp_law_asked A) [] (dCons (dC (.int 2)) (dCons (dVar 1) (dCons (dC (.int 0)) (dCons (dVar 2) (dCons (dVar 3) dNil)))))) (dCons (dTup (dCons (dC (.str "told")) (dCons (dOp ixG (dCall sp_law_least [] (dCons (dVar 2) (dCons (dVar 3) dNil))) (dC (.int 0))) dNil))) dNil)))))))))))))))))))
theorem ok_law_refusals {f : Addr} {fd : FuncData} (T : Txt K mg A) (G_Row_init : MakD P w K mg base 1 "Row" A.Row P_Row_init [] (sp_Row_init A)) (G_Row_least : MetD P w K mg base 3 A.Row "least" P_Row_least [] (sp_Row_least A)) (G_law_asked : FnD P w K mg base 5 "_law_asked" P_law_asked [] (sp_law_asked A)) (G_law_at : FnD P w K mg base 1 "_law_at" P_law_at [] sp_law_at) (G_law_is_row : FnD P w K mg base 5 "_law_is_row" P_law_is_row [] (sp_law_is_row A)) (G_law_least : FnD P w K mg base 1 "_law_least" P_law_least [] sp_law_least) (G_law_pick : FnD P w K mg base 1 "_law_pick" P_law_pick [] sp_law_pick) (G_law_same : FnD P w K mg base 4 "_law_same" P_law_same [] (sp_law_same 4)) (F : L2.Fun K "_law_refusals" "_law_refusals" s_law_refusals f fd) (sp : DSp) (len : ∀ ds M Q E, sp ds M Q E → ds.length = P_law_refusals.length) (h : ∀ ds M Q E, sp ds M Q E → t_law_refusals K A (ends Q E) (dstart N_law_refusals ds) M) :
    FnOk P w K mg base (L2.CX P w) (5 + 1) f fd P_law_refusals (liftSp K sp) :=
  okD F sc_law_refusals len fun cdv A outer s H E hr tk => ⟨t_law_refusals K _, (pssd_cons (psd_set (i := 4) sc_law_refusals.nd rfl (Or.inl rfl) (pd_tup (pad_cons pd_str (pad_cons pd_bl (pad_cons pd_bl pad_nil)))))
    (pssd_cons (psd_set (i := 5) sc_law_refusals.nd rfl (Or.inl rfl) (pd_op op_subD (pd_neg pd_int) (pd_call G_law_pick (hr.mono (by omega)) tk rfl (pad_cons (pdv 0) (pad_cons (pd_ix ix_G (pd_lst (pad_cons pd_int (pad_cons (pd_op op_powD pd_int pd_int) pad_nil))) (pd_call G_law_pick (hr.mono (by omega)) tk rfl (pad_cons (pdv 0) (pad_cons pd_int pad_nil))) (fun _ _ => rfl)) pad_nil)))))
    (pssd_cons (psd_for (passes_of rfl) rfl (pid_rng1 rfl T.n_range (pad_cons pd_int pad_nil)) (pgd_name (pg_name (i := 6) sc_law_refusals.nd rfl (Or.inl rfl))) (pssd_one (psd_if (ptd_not (ptd_tru (pd_call G_law_same (hr.mono (by omega)) tk rfl (pad_cons (pd_call G_law_asked (hr.mono (by omega)) tk rfl (pad_cons (pdv 6) (pad_cons (pdv 1) (pad_cons (pdv 5) (pad_cons (pdv 2) (pad_cons (pdv 3) pad_nil)))))) (pad_cons (pdv 4) pad_nil))))) (pssd_one (psd_ret pd_bl)) pssd_nil)))
    (pssd_cons (psd_set (i := 7) sc_law_refusals.nd rfl (Or.inl rfl) (pd_call G_law_pick (hr.mono (by omega)) tk rfl (pad_cons (pdv 0) (pad_cons (pd_op op_addD (pd_callB call_lenG rfl T.n_len bt_len (pad_cons (pdv 2) pad_nil)) (pd_callB call_lenG rfl T.n_len bt_len (pad_cons (pdv 3) pad_nil))) pad_nil))))
    (pssd_cons (psd_set (i := 8) sc_law_refusals.nd rfl (Or.inl rfl) (pd_callT call_lstG rfl T.n_list bt_list (pad_cons (pd_op op_addD (pdv 2) (pdv 3)) pad_nil)))
    (pssd_cons (psd_asg (pdv 5) (pgd_sub (pdv 8) (pdv 7)))
    (pssd_cons (psd_set (i := 9) sc_law_refusals.nd rfl (Or.inl rfl) (pd_callT call_tupG rfl T.n_tuple bt_tuple (pad_cons (pd_slice (pdv 8) pod_none (pod_some (pd_callB call_lenG rfl T.n_len bt_len (pad_cons (pdv 2) pad_nil)))) pad_nil)))
    (pssd_cons (psd_set (i := 10) sc_law_refusals.nd rfl (Or.inl rfl) (pd_callT call_tupG rfl T.n_tuple bt_tuple (pad_cons (pd_slice (pdv 8) (pod_some (pd_callB call_lenG rfl T.n_len bt_len (pad_cons (pdv 2) pad_nil))) pod_none) pad_nil)))
    (pssd_cons (psd_for (passes_of rfl) rfl (pid_any (pd_lst (pad_cons (pd_tup (pad_cons (pdv 9) (pad_cons (pdv 10) pad_nil))) (pad_cons (pd_tup (pad_cons (pdv 2) (pad_cons (pd_tup pad_nil) pad_nil))) (pad_cons (pd_tup (pad_cons (pdv 9) (pad_cons (pd_tup pad_nil) pad_nil))) (pad_cons (pd_tup (pad_cons (pd_tup pad_nil) (pad_cons (pd_tup pad_nil) pad_nil))) (pad_cons (pd_tup (pad_cons (pd_tup (pad_cons (pdv 5) pad_nil)) (pad_cons (pdv 3) pad_nil))) (pad_cons (pd_tup (pad_cons (pdv 2) (pad_cons (pd_tup (pad_cons (pdv 5) pad_nil)) pad_nil))) pad_nil)))))))) (pgd_name (pg_name (i := 11) sc_law_refusals.nd rfl (Or.inl rfl))) (pssd_one (psd_if (ptd_not (ptd_tru (pd_call G_law_same (hr.mono (by omega)) tk rfl (pad_cons (pd_call G_law_asked (hr.mono (by omega)) tk rfl (pad_cons pd_int (pad_cons (pdv 1) (pad_cons pd_int (pad_cons (pd_ix ix_G (pdv 11) pd_int (fun _ _ => rfl)) (pad_cons (pd_ix ix_G (pdv 11) pd_int (fun _ _ => rfl)) pad_nil)))))) (pad_cons (pdv 4) pad_nil))))) (pssd_one (psd_ret pd_bl)) pssd_nil)))
    (pssd_cons (psd_asg pd_int (pgd_sub (pdv 8) (pdv 7)))
    (pssd_cons (psd_set (i := 9) sc_law_refusals.nd rfl (Or.inl rfl) (pd_callT call_tupG rfl T.n_tuple bt_tuple (pad_cons (pd_slice (pdv 8) pod_none (pod_some (pd_callB call_lenG rfl T.n_len bt_len (pad_cons (pdv 2) pad_nil)))) pad_nil)))
    (pssd_cons (psd_set (i := 10) sc_law_refusals.nd rfl (Or.inl rfl) (pd_callT call_tupG rfl T.n_tuple bt_tuple (pad_cons (pd_slice (pdv 8) (pod_some (pd_callB call_lenG rfl T.n_len bt_len (pad_cons (pdv 2) pad_nil))) pod_none) pad_nil)))
    (pssd_cons (psd_if (ptd_not (ptd_tru (pd_call G_law_is_row (hr.mono (by omega)) tk rfl (pad_cons (pd_meth0 G_Row_least (hr.mono (by omega)) tk (pd_make G_Row_init (hr.mono (by omega)) tk rfl (pad_cons (pdv 9) (pad_cons (pdv 10) pad_nil)))) (pad_cons (pd_call G_law_least (hr.mono (by omega)) tk rfl (pad_cons (pdv 9) (pad_cons (pdv 10) pad_nil))) pad_nil))))) (pssd_one (psd_ret pd_bl)) pssd_nil)
    (pssd_cons (psd_if (ptd_not (ptd_tru (pd_call G_law_same (hr.mono (by omega)) tk rfl (pad_cons (pd_call G_law_asked (hr.mono (by omega)) tk rfl (pad_cons pd_int (pad_cons (pdv 1) (pad_cons pd_int (pad_cons (pdv 2) (pad_cons (pdv 3) pad_nil)))))) (pad_cons (pd_tup (pad_cons pd_str (pad_cons (pd_call G_law_at (hr.mono (by omega)) tk rfl (pad_cons (pdv 2) (pad_cons (pdv 3) (pad_cons pd_int pad_nil)))) pad_nil))) pad_nil))))) (pssd_one (psd_ret pd_bl)) pssd_nil)
    (pssd_cons (psd_if (ptd_not (ptd_tru (pd_call G_law_same (hr.mono (by omega)) tk rfl (pad_cons (pd_call G_law_asked (hr.mono (by omega)) tk rfl (pad_cons pd_int (pad_cons (pdv 1) (pad_cons pd_int (pad_cons (pdv 2) (pad_cons (pdv 3) pad_nil)))))) (pad_cons (pd_tup (pad_cons pd_str (pad_cons (pd_tup pad_nil) pad_nil))) pad_nil))))) (pssd_one (psd_ret pd_bl)) pssd_nil)
    (pssd_one (psd_ret (pd_call G_law_same (hr.mono (by omega)) tk rfl (pad_cons (pd_call G_law_asked (hr.mono (by omega)) tk rfl (pad_cons pd_int (pad_cons (pdv 1) (pad_cons pd_int (pad_cons (pdv 2) (pad_cons (pdv 3) pad_nil)))))) (pad_cons (pd_tup (pad_cons pd_str (pad_cons (pd_ix ix_G (pd_call G_law_least (hr.mono (by omega)) tk rfl (pad_cons (pdv 2) (pad_cons (pdv 3) pad_nil))) pd_int (fun _ _ => rfl)) pad_nil))) pad_nil)))))))))))))))))))), h⟩
def t_law_entries (K : PySem.W.Frag) (A : Adr) : DS :=
  (dSeq (dFor (dRng1 (dCons (dC (.int 3)) dNil)) (dName 4) (dSeq (dAsg (dCall sp_law_pick [] (dCons (dVar 0) (dCons (dOp ixG (dLst (dCons (dC (.int 4)) (dCons (dC (.int 1000)) (dCons (dOp (oI CPow fun i j => .int (i ^ j.toNat)) (dC (.int 10)) (dC (.int 60))) dNil)))) (dCall sp_law_pick [] (dCons (dVar 0) (dCons (dC (.int 3)) dNil)))) dNil))) (dName 5))
    (dSeq (dIfS (dNot (dTru (dCall (sp_law_same 4) [] (dCons (dIxO A.Row (sp_Row_getitem A) (dVar 1) (dVar 5)) (dCons (dCall sp_law_at [] (dCons (dVar 2) (dCons (dVar 3) (dCons (dVar 5) dNil)))) dNil))))) (dRet (dC (.bl false))) dNext)
    (dSeq (dAsg (dLst (dCons (dCall sp_law_pick [] (dCons (dVar 0) (dCons (dC (.int 4)) dNil))) (dCons (dOp addD (dCB lenG (dCons (dVar 2) dNil)) (dCall sp_law_pick [] (dCons (dVar 0) (dCons (dC (.int 3)) dNil)))) (dCons (dCall sp_law_pick [] (dCons (dVar 0) (dCons (dC (.int 800)) dNil))) (dCons (dCall sp_law_pick [] (dCons (dVar 0) (dCons (dOp (oI CPow fun i j => .int (i ^ j.toNat)) (dC (.int 10)) (dC (.int 60))) dNil))) dNil))))) (dName 6))
    (dSeq (dAsg (dOp ixG (dVar 6) (dCall sp_law_pick [] (dCons (dVar 0) (dCons (dC (.int 4)) dNil)))) (dName 7))
    (dSeq (dAsg (dMeth A.Row "after" (sp_Row_after A) [] (dVar 1) (dCons (dVar 7) dNil)) (dName 8))
    (dSeq (dIfS (dNot (dTru (dCall (sp_law_is_row A) [] (dCons (dVar 8) (dCons (dCall sp_law_behind [] (dCons (dVar 2) (dCons (dVar 3) (dCons (dVar 7) dNil)))) dNil))))) (dRet (dC (.bl false))) dNext)
    (dIfS (dNot (dTru (dCall (sp_law_same 4) [] (dCons (dIxO A.Row (sp_Row_getitem A) (dVar 8) (dVar 4)) (dCons (dCall sp_law_at [] (dCons (dVar 2) (dCons (dVar 3) (dCons (dOp addD (dVar 7) (dVar 4)) dNil)))) dNil))))) (dRet (dC (.bl false))) dNext))))))))
    (dSeq (dAsg (dOp ixG (dLst (dCons (dCall sp_law_pick [] (dCons (dVar 0) (dCons (dC (.int 3)) dNil))) (dCons (dOp addD (dCB lenG (dCons (dVar 2) dNil)) (dCall sp_law_pick [] (dCons (dVar 0) (dCons (dC (.int 3)) dNil)))) (dCons (dCall sp_law_pick [] (dCons (dVar 0) (dCons (dC (.int 1001)) dNil))) dNil)))) (dCall sp_law_pick [] (dCons (dVar 0) (dCons (dC (.int 3)) dNil)))) (dName 9))
    (dRet (dCall (sp_law_same 4) [] (dCons (dMeth A.Row "start" (sp_Row_start A) [] (dVar 1) (dCons (dVar 9) dNil)) (dCons (dCB tupG (dCons (dLc (dRng1 (dCons (dVar 9) dNil)) (fun d τ => τ.set 10 (some d)) dYes (dCall sp_law_at [] (dCons (dVar 2) (dCons (dVar 3) (dCons (dVar 10) dNil)))) [10]) dNil)) dNil))))))
theorem ok_law_entries {f : Addr} {fd : FuncData} (T : Txt K mg A) (G_Row_getitem : MetD P w K mg base 1 A.Row "__getitem__" P_Row_getitem [] (sp_Row_getitem A)) (G_Row_after : MetD P w K mg base 4 A.Row "after" P_Row_after [] (sp_Row_after A)) (G_Row_start : MetD P w K mg base 3 A.Row "start" P_Row_start [] (sp_Row_start A)) (G_law_at : FnD P w K mg base 1 "_law_at" P_law_at [] sp_law_at) (G_law_behind : FnD P w K mg base 2 "_law_behind" P_law_behind [] sp_law_behind) (G_law_is_row : FnD P w K mg base 5 "_law_is_row" P_law_is_row [] (sp_law_is_row A)) (G_law_pick : FnD P w K mg base 1 "_law_pick" P_law_pick [] sp_law_pick) (G_law_same : FnD P w K mg base 4 "_law_same" P_law_same [] (sp_law_same 4)) (F : L2.Fun K "_law_entries" "_law_entries" s_law_entries f fd) (sp : DSp) (len : ∀ ds M Q E, sp ds M Q E → ds.length = P_law_entries.length) (h : ∀ ds M Q E, sp ds M Q E → t_law_entries K A (ends Q E) (dstart N_law_entries ds) M) :
    FnOk P w K mg base (L2.CX P w) (5 + 1) f fd P_law_entries (liftSp K sp) :=
  okD F sc_law_entries len fun cdv A outer s H E hr tk => ⟨t_law_entries K _, (pssd_cons (psd_for (passes_of rfl) rfl (pid_rng1 rfl T.n_range (pad_cons pd_int pad_nil)) (pgd_name (pg_name (i := 4) sc_law_entries.nd rfl (Or.inl rfl))) (pssd_cons (psd_set (i := 5) sc_law_entries.nd rfl (Or.inl rfl) (pd_call G_law_pick (hr.mono (by omega)) tk rfl (pad_cons (pdv 0) (pad_cons (pd_ix ix_G (pd_lst (pad_cons pd_int (pad_cons pd_int (pad_cons (pd_op op_powD pd_int pd_int) pad_nil)))) (pd_call G_law_pick (hr.mono (by omega)) tk rfl (pad_cons (pdv 0) (pad_cons pd_int pad_nil))) (fun _ _ => rfl)) pad_nil))))
    (pssd_cons (psd_if (ptd_not (ptd_tru (pd_call G_law_same (hr.mono (by omega)) tk rfl (pad_cons (pd_ixO G_Row_getitem T.f_Row_getitem (hr.mono (by omega)) tk (pdv 1) (pdv 5)) (pad_cons (pd_call G_law_at (hr.mono (by omega)) tk rfl (pad_cons (pdv 2) (pad_cons (pdv 3) (pad_cons (pdv 5) pad_nil)))) pad_nil))))) (pssd_one (psd_ret pd_bl)) pssd_nil)
    (pssd_cons (psd_set (i := 6) sc_law_entries.nd rfl (Or.inl rfl) (pd_lst (pad_cons (pd_call G_law_pick (hr.mono (by omega)) tk rfl (pad_cons (pdv 0) (pad_cons pd_int pad_nil))) (pad_cons (pd_op op_addD (pd_callB call_lenG rfl T.n_len bt_len (pad_cons (pdv 2) pad_nil)) (pd_call G_law_pick (hr.mono (by omega)) tk rfl (pad_cons (pdv 0) (pad_cons pd_int pad_nil)))) (pad_cons (pd_call G_law_pick (hr.mono (by omega)) tk rfl (pad_cons (pdv 0) (pad_cons pd_int pad_nil))) (pad_cons (pd_call G_law_pick (hr.mono (by omega)) tk rfl (pad_cons (pdv 0) (pad_cons (pd_op op_powD pd_int pd_int) pad_nil))) pad_nil))))))
    (pssd_cons (psd_set (i := 7) sc_law_entries.nd rfl (Or.inl rfl) (pd_ix ix_G (pdv 6) (pd_call G_law_pick (hr.mono (by omega)) tk rfl (pad_cons (pdv 0) (pad_cons pd_int pad_nil))) (fun _ _ => rfl)))
    (pssd_cons (psd_set (i := 8) sc_law_entries.nd rfl (Or.inl rfl) (pd_meth G_Row_after (hr.mono (by omega)) tk (pdv 1) (pad_cons (pdv 7) pad_nil)))
    (pssd_cons (psd_if (ptd_not (ptd_tru (pd_call G_law_is_row (hr.mono (by omega)) tk rfl (pad_cons (pdv 8) (pad_cons (pd_call G_law_behind (hr.mono (by omega)) tk rfl (pad_cons (pdv 2) (pad_cons (pdv 3) (pad_cons (pdv 7) pad_nil)))) pad_nil))))) (pssd_one (psd_ret pd_bl)) pssd_nil)
    (pssd_one (psd_if (ptd_not (ptd_tru (pd_call G_law_same (hr.mono (by omega)) tk rfl (pad_cons (pd_ixO G_Row_getitem T.f_Row_getitem (hr.mono (by omega)) tk (pdv 8) (pdv 4)) (pad_cons (pd_call G_law_at (hr.mono (by omega)) tk rfl (pad_cons (pdv 2) (pad_cons (pdv 3) (pad_cons (pd_op op_addD (pdv 7) (pdv 4)) pad_nil)))) pad_nil))))) (pssd_one (psd_ret pd_bl)) pssd_nil)))))))))
    (pssd_cons (psd_set (i := 9) sc_law_entries.nd rfl (Or.inl rfl) (pd_ix ix_G (pd_lst (pad_cons (pd_call G_law_pick (hr.mono (by omega)) tk rfl (pad_cons (pdv 0) (pad_cons pd_int pad_nil))) (pad_cons (pd_op op_addD (pd_callB call_lenG rfl T.n_len bt_len (pad_cons (pdv 2) pad_nil)) (pd_call G_law_pick (hr.mono (by omega)) tk rfl (pad_cons (pdv 0) (pad_cons pd_int pad_nil)))) (pad_cons (pd_call G_law_pick (hr.mono (by omega)) tk rfl (pad_cons (pdv 0) (pad_cons pd_int pad_nil))) pad_nil)))) (pd_call G_law_pick (hr.mono (by omega)) tk rfl (pad_cons (pdv 0) (pad_cons pd_int pad_nil))) (fun _ _ => rfl)))
    (pssd_one (psd_ret (pd_call G_law_same (hr.mono (by omega)) tk rfl (pad_cons (pd_meth G_Row_start (hr.mono (by omega)) tk (pdv 1) (pad_cons (pdv 9) pad_nil)) (pad_cons (pd_callT call_tupG rfl T.n_tuple bt_tuple (pad_cons (pd_lc (own := [("p", 10)]) (i := 10) rfl sc_law_entries.nd (pid_rng1 rfl T.n_range (pad_cons (pdv 9) pad_nil)) (blkOk_by (N := N_law_entries) (sc := defScope s_law_entries) (by decide +kernel)) (by decide) (fun _ _ _ _ _ => pg_name (i := 10) sc_law_entries.nd rfl (Or.inl rfl)) (fun _ _ _ _ _ => ptsd_nil) (fun _ _ _ _ _ => (pd_call G_law_at (hr.mono (by omega)) tk0 rfl (pad_cons (pdv 2) (pad_cons (pdv 3) (pad_cons (pdv 10) pad_nil)))))) pad_nil)) pad_nil))))))), h⟩
def t_law (K : PySem.W.Frag) (A : Adr) : DS :=
  (dSeq (dAsg (dCall (sp_law_start K) [] (dCons (dVar 0) dNil)) (dName 1))
    (dSeq (dAsg (dCall sp_law_row [] (dCons (dVar 1) dNil)) (dGTup 3 (dGCons (dName 2) (dGCons (dName 3) (dGCons (dName 4) dGNil)))))
    (dSeq (dAsg (dCall sp_law_other [] (dCons (dVar 1) (dCons (dVar 2) (dCons (dVar 3) dNil)))) (dGTup 2 (dGCons (dName 5) (dGCons (dName 6) dGNil))))
    (dSeq (dAsg (dCall sp_law_bent [] (dCons (dVar 1) (dCons (dVar 5) (dCons (dVar 6) (dCons (dVar 4) dNil))))) (dGTup 3 (dGCons (dName 7) (dGCons (dName 8) (dGCons (dName 9) dGNil)))))
    (dSeq (dAsg (dMake A.Row (sp_Row_init A) [] (dCons (dVar 2) (dCons (dVar 3) dNil))) (dName 10))
    (dSeq (dAsg (dMake A.Row (sp_Row_init A) [] (dCons (dVar 5) (dCons (dVar 6) dNil))) (dName 11))
    (dSeq (dAsg (dMake A.Row (sp_Row_init A) [] (dCons (dVar 7) (dCons (dVar 8) dNil))) (dName 12))
    (dSeq (dAsg (dCall sp_law_least [] (dCons (dVar 2) (dCons (dVar 3) dNil))) (dName 13))
    (dSeq (dIfS (dOr (dNot (dTru (dCall (sp_law_is_row A) [] (dCons (dVar 10) (dCons (dTup (dCons (dVar 2) (dCons (dVar 3) dNil))) dNil))))) (dNot (dTru (dCall (sp_law_is_row A) [] (dCons (dVar 11) (dCons (dTup (dCons (dVar 5) (dCons (dVar 6) dNil))) dNil)))))) (dRet (dC (.bl false))) dNext)
    (dSeq (dIfS (dOr (dNot (dTru (dCall (sp_law_is_row A) [] (dCons (dMeth A.Row "least" (sp_Row_least A) [] (dVar 10) dNil) (dCons (dVar 13) dNil))))) (dNot (dTru (dCall (sp_law_is_row A) [] (dCons (dMeth A.Row "least" (sp_Row_least A) [] (dVar 11) dNil) (dCons (dVar 13) dNil)))))) (dRet (dC (.bl false))) dNext)
    (dSeq (dIfS (dNot (dTru (dCall (sp_law_is_row A) [] (dCons (dMeth A.Row "least" (sp_Row_least A) [] (dVar 12) dNil) (dCons (dCall sp_law_least [] (dCons (dVar 7) (dCons (dVar 8) dNil))) dNil))))) (dRet (dC (.bl false))) dNext)
    (dSeq (dIfS (dOr (dB (dOp (isG true) (dCall (sp_same_rows A) [] (dCons (dVar 10) (dCons (dVar 11) dNil))) (dC (.bl true)))) (dB (dOp (isG true) (dCall (sp_same_rows A) [] (dCons (dVar 11) (dCons (dVar 10) dNil))) (dC (.bl true))))) (dRet (dC (.bl false))) dNext)
    (dSeq (dIfS (dOr (dB (dOp (isG true) (dCall (sp_same_rows A) [] (dCons (dVar 10) (dCons (dVar 12) dNil))) (dC (.bl false)))) (dB (dOp (isG true) (dCall (sp_same_rows A) [] (dCons (dVar 12) (dCons (dVar 11) dNil))) (dC (.bl false))))) (dRet (dC (.bl false))) dNext)
    (dSeq (dIfS (dOr (dNot (dTru (dCall (sp_law_same 4) [] (dCons (dIxO A.Row (sp_Row_getitem A) (dVar 12) (dVar 9)) (dCons (dOp ixG (dOp addD (dVar 7) (dVar 8)) (dVar 9)) dNil))))) (dNot (dTru (dCall (sp_law_same 4) [] (dCons (dIxO A.Row (sp_Row_getitem A) (dVar 11) (dVar 9)) (dCons (dOp ixG (dOp addD (dVar 5) (dVar 6)) (dVar 9)) dNil)))))) (dRet (dC (.bl false))) dNext)
    (dSeq (dIfS (dOr (dNot (dTru (dCall (sp_law_entries A) [] (dCons (dVar 1) (dCons (dVar 10) (dCons (dVar 2) (dCons (dVar 3) dNil))))))) (dNot (dTru (dCall (sp_law_entries A) [] (dCons (dVar 1) (dCons (dVar 11) (dCons (dVar 5) (dCons (dVar 6) dNil)))))))) (dRet (dC (.bl false))) dNext)
    (dSeq (dIfS (dNot (dTru (dCall (sp_law_refusals A) [] (dCons (dVar 1) (dCons (dVar 10) (dCons (dVar 2) (dCons (dVar 3) dNil))))))) (dRet (dC (.bl false))) dNext)
    (dSeq (dAsg (dMake A.Row (sp_Row_init A) dd_Row_init_1 (dCons (dVar 2) dNil)) (dName 14))
    (dSeq (dIfS (dOr (dNot (dTru (dCall (sp_law_is_row A) [] (dCons (dVar 14) (dCons (dTup (dCons (dVar 2) (dCons (dTup (dCons (dC (.int 0)) dNil)) dNil))) dNil))))) (dNot (dTru (dCall (sp_law_is_row A) [] (dCons (dMeth A.Row "least" (sp_Row_least A) [] (dVar 14) dNil) (dCons (dCall sp_law_least [] (dCons (dVar 2) (dCons (dTup (dCons (dC (.int 0)) dNil)) dNil))) dNil)))))) (dRet (dC (.bl false))) dNext)
    (dSeq (dIfS (dOr (dNot (dTru (dCall (sp_law_is_row A) [] (dCons (dMeth A.Row "least" (sp_Row_least A) [] (dVar 10) dNil) (dCons (dVar 13) dNil))))) (dOr (dB (dOp (isG true) (dCall (sp_same_rows A) [] (dCons (dVar 10) (dCons (dVar 11) dNil))) (dC (.bl true)))) (dB (dOp (isG true) (dCall (sp_same_rows A) [] (dCons (dVar 12) (dCons (dVar 10) dNil))) (dC (.bl false)))))) (dRet (dC (.bl false))) dNext)
    (dRet (dAndV (dCall (sp_law_is_row A) [] (dCons (dVar 10) (dCons (dTup (dCons (dVar 2) (dCons (dVar 3) dNil))) dNil))) (dCall (sp_law_is_row A) [] (dCons (dVar 12) (dCons (dTup (dCons (dVar 7) (dCons (dVar 8) dNil))) dNil))))))))))))))))))))))))
theorem ok_law {f : Addr} {fd : FuncData} (T : Txt K mg A) (G_Row_getitem : MetD P w K mg base 1 A.Row "__getitem__" P_Row_getitem [] (sp_Row_getitem A)) (G_Row_init_1 : MakD P w K mg base 1 "Row" A.Row P_Row_init dd_Row_init_1 (sp_Row_init A)) (G_Row_init : MakD P w K mg base 1 "Row" A.Row P_Row_init [] (sp_Row_init A)) (G_Row_least : MetD P w K mg base 3 A.Row "least" P_Row_least [] (sp_Row_least A)) (G_law_bent : FnD P w K mg base 2 "_law_bent" P_law_bent [] sp_law_bent) (G_law_entries : FnD P w K mg base 6 "_law_entries" P_law_entries [] (sp_law_entries A)) (G_law_is_row : FnD P w K mg base 5 "_law_is_row" P_law_is_row [] (sp_law_is_row A)) (G_law_least : FnD P w K mg base 1 "_law_least" P_law_least [] sp_law_least) (G_law_other : FnD P w K mg base 2 "_law_other" P_law_other [] sp_law_other) (G_law_refusals : FnD P w K mg base 6 "_law_refusals" P_law_refusals [] (sp_law_refusals A)) (G_law_row : FnD P w K mg base 2 "_law_row" P_law_row [] sp_law_row) (G_law_same : FnD P w K mg base 4 "_law_same" P_law_same [] (sp_law_same 4)) (G_law_start : FnD P w K mg base 1 "_law_start" P_law_start [] (sp_law_start K)) (G_same_rows : FnD P w K mg base 4 "same_rows" P_same_rows [] (sp_same_rows A)) (F : L2.Fun K "law" "law" s_law f fd) (sp : DSp) (len : ∀ ds M Q E, sp ds M Q E → ds.length = P_law.length) (h : ∀ ds M Q E, sp ds M Q E → t_law K A (ends Q E) (dstart N_law ds) M) :
    FnOk P w K mg base (L2.CX P w) (6 + 1) f fd P_law (liftSp K sp) :=
  okD F sc_law len fun cdv A outer s H E hr tk => ⟨t_law K _, (pssd_cons (psd_set (i := 1) sc_law.nd rfl (Or.inl rfl) (pd_call G_law_start (hr.mono (by omega)) tk rfl (pad_cons (pdv 0) pad_nil)))
    (pssd_cons (psd_asg (pd_call G_law_row (hr.mono (by omega)) tk rfl (pad_cons (pdv 1) pad_nil)) (pgd_tup rfl (pgsd_cons (pgd_name (pg_name (i := 2) sc_law.nd rfl (Or.inl rfl))) (pgsd_cons (pgd_name (pg_name (i := 3) sc_law.nd rfl (Or.inl rfl))) (pgsd_cons (pgd_name (pg_name (i := 4) sc_law.nd rfl (Or.inl rfl))) pgsd_nil)))))
    (pssd_cons (psd_asg (pd_call G_law_other (hr.mono (by omega)) tk rfl (pad_cons (pdv 1) (pad_cons (pdv 2) (pad_cons (pdv 3) pad_nil)))) (pgd_tup rfl (pgsd_cons (pgd_name (pg_name (i := 5) sc_law.nd rfl (Or.inl rfl))) (pgsd_cons (pgd_name (pg_name (i := 6) sc_law.nd rfl (Or.inl rfl))) pgsd_nil))))
    (pssd_cons (psd_asg (pd_call G_law_bent (hr.mono (by omega)) tk rfl (pad_cons (pdv 1) (pad_cons (pdv 5) (pad_cons (pdv 6) (pad_cons (pdv 4) pad_nil))))) (pgd_tup rfl (pgsd_cons (pgd_name (pg_name (i := 7) sc_law.nd rfl (Or.inl rfl))) (pgsd_cons (pgd_name (pg_name (i := 8) sc_law.nd rfl (Or.inl rfl))) (pgsd_cons (pgd_name (pg_name (i := 9) sc_law.nd rfl (Or.inl rfl))) pgsd_nil)))))
    (pssd_cons (psd_set (i := 10) sc_law.nd rfl (Or.inl rfl) (pd_make G_Row_init (hr.mono (by omega)) tk rfl (pad_cons (pdv 2) (pad_cons (pdv 3) pad_nil))))
    (pssd_cons (psd_set (i := 11) sc_law.nd rfl (Or.inl rfl) (pd_make G_Row_init (hr.mono (by omega)) tk rfl (pad_cons (pdv 5) (pad_cons (pdv 6) pad_nil))))
    (pssd_cons (psd_set (i := 12) sc_law.nd rfl (Or.inl rfl) (pd_make G_Row_init (hr.mono (by omega)) tk rfl (pad_cons (pdv 7) (pad_cons (pdv 8) pad_nil))))
    (pssd_cons (psd_set (i := 13) sc_law.nd rfl (Or.inl rfl) (pd_call G_law_least (hr.mono (by omega)) tk rfl (pad_cons (pdv 2) (pad_cons (pdv 3) pad_nil))))
    (pssd_cons (psd_if (PWD.pt (pwd_or (ptd_not (ptd_tru (pd_call G_law_is_row (hr.mono (by omega)) tk rfl (pad_cons (pdv 10) (pad_cons (pd_tup (pad_cons (pdv 2) (pad_cons (pdv 3) pad_nil))) pad_nil))))) (pwd_or1 (ptd_not (ptd_tru (pd_call G_law_is_row (hr.mono (by omega)) tk rfl (pad_cons (pdv 11) (pad_cons (pd_tup (pad_cons (pdv 5) (pad_cons (pdv 6) pad_nil))) pad_nil)))))))) (pssd_one (psd_ret pd_bl)) pssd_nil)
    (pssd_cons (psd_if (PWD.pt (pwd_or (ptd_not (ptd_tru (pd_call G_law_is_row (hr.mono (by omega)) tk rfl (pad_cons (pd_meth0 G_Row_least (hr.mono (by omega)) tk (pdv 10)) (pad_cons (pdv 13) pad_nil))))) (pwd_or1 (ptd_not (ptd_tru (pd_call G_law_is_row (hr.mono (by omega)) tk rfl (pad_cons (pd_meth0 G_Row_least (hr.mono (by omega)) tk (pdv 11)) (pad_cons (pdv 13) pad_nil)))))))) (pssd_one (psd_ret pd_bl)) pssd_nil)
    (pssd_cons (psd_if (ptd_not (ptd_tru (pd_call G_law_is_row (hr.mono (by omega)) tk rfl (pad_cons (pd_meth0 G_Row_least (hr.mono (by omega)) tk (pdv 12)) (pad_cons (pd_call G_law_least (hr.mono (by omega)) tk rfl (pad_cons (pdv 7) (pad_cons (pdv 8) pad_nil))) pad_nil))))) (pssd_one (psd_ret pd_bl)) pssd_nil)
    (pssd_cons (psd_if (PWD.pt (pwd_or (pt_cmpD op_isNotG (pd_call G_same_rows (hr.mono (by omega)) tk rfl (pad_cons (pdv 10) (pad_cons (pdv 11) pad_nil))) pd_bl (nomark _)) (pwd_or1 (pt_cmpD op_isNotG (pd_call G_same_rows (hr.mono (by omega)) tk rfl (pad_cons (pdv 11) (pad_cons (pdv 10) pad_nil))) pd_bl (nomark _))))) (pssd_one (psd_ret pd_bl)) pssd_nil)
    (pssd_cons (psd_if (PWD.pt (pwd_or (pt_cmpD op_isNotG (pd_call G_same_rows (hr.mono (by omega)) tk rfl (pad_cons (pdv 10) (pad_cons (pdv 12) pad_nil))) pd_bl (nomark _)) (pwd_or1 (pt_cmpD op_isNotG (pd_call G_same_rows (hr.mono (by omega)) tk rfl (pad_cons (pdv 12) (pad_cons (pdv 11) pad_nil))) pd_bl (nomark _))))) (pssd_one (psd_ret pd_bl)) pssd_nil)
    (pssd_cons (psd_if (PWD.pt (pwd_or (ptd_not (ptd_tru (pd_call G_law_same (hr.mono (by omega)) tk rfl (pad_cons (pd_ixO G_Row_getitem T.f_Row_getitem (hr.mono (by omega)) tk (pdv 12) (pdv 9)) (pad_cons (pd_ix ix_G (pd_op op_addD (pdv 7) (pdv 8)) (pdv 9) (fun _ _ => rfl)) pad_nil))))) (pwd_or1 (ptd_not (ptd_tru (pd_call G_law_same (hr.mono (by omega)) tk rfl (pad_cons (pd_ixO G_Row_getitem T.f_Row_getitem (hr.mono (by omega)) tk (pdv 11) (pdv 9)) (pad_cons (pd_ix ix_G (pd_op op_addD (pdv 5) (pdv 6)) (pdv 9) (fun _ _ => rfl)) pad_nil)))))))) (pssd_one (psd_ret pd_bl)) pssd_nil)
    (pssd_cons (psd_if (PWD.pt (pwd_or (ptd_not (ptd_tru (pd_call G_law_entries (hr.mono (by omega)) tk rfl (pad_cons (pdv 1) (pad_cons (pdv 10) (pad_cons (pdv 2) (pad_cons (pdv 3) pad_nil))))))) (pwd_or1 (ptd_not (ptd_tru (pd_call G_law_entries (hr.mono (by omega)) tk rfl (pad_cons (pdv 1) (pad_cons (pdv 11) (pad_cons (pdv 5) (pad_cons (pdv 6) pad_nil)))))))))) (pssd_one (psd_ret pd_bl)) pssd_nil)
    (pssd_cons (psd_if (ptd_not (ptd_tru (pd_call G_law_refusals (hr.mono (by omega)) tk rfl (pad_cons (pdv 1) (pad_cons (pdv 10) (pad_cons (pdv 2) (pad_cons (pdv 3) pad_nil))))))) (pssd_one (psd_ret pd_bl)) pssd_nil)
    (pssd_cons (psd_set (i := 14) sc_law.nd rfl (Or.inl rfl) (pd_make G_Row_init_1 (hr.mono (by omega)) tk rfl (pad_cons (pdv 2) pad_nil)))
    (pssd_cons (psd_if (PWD.pt (pwd_or (ptd_not (ptd_tru (pd_call G_law_is_row (hr.mono (by omega)) tk rfl (pad_cons (pdv 14) (pad_cons (pd_tup (pad_cons (pdv 2) (pad_cons (pd_tup (pad_cons pd_int pad_nil)) pad_nil))) pad_nil))))) (pwd_or1 (ptd_not (ptd_tru (pd_call G_law_is_row (hr.mono (by omega)) tk rfl (pad_cons (pd_meth0 G_Row_least (hr.mono (by omega)) tk (pdv 14)) (pad_cons (pd_call G_law_least (hr.mono (by omega)) tk rfl (pad_cons (pdv 2) (pad_cons (pd_tup (pad_cons pd_int pad_nil)) pad_nil))) pad_nil)))))))) (pssd_one (psd_ret pd_bl)) pssd_nil)
    (pssd_cons (psd_if (PWD.pt (pwd_or (ptd_not (ptd_tru (pd_call G_law_is_row (hr.mono (by omega)) tk rfl (pad_cons (pd_meth0 G_Row_least (hr.mono (by omega)) tk (pdv 10)) (pad_cons (pdv 13) pad_nil))))) (pwd_or (pt_cmpD op_isNotG (pd_call G_same_rows (hr.mono (by omega)) tk rfl (pad_cons (pdv 10) (pad_cons (pdv 11) pad_nil))) pd_bl (nomark _)) (pwd_or1 (pt_cmpD op_isNotG (pd_call G_same_rows (hr.mono (by omega)) tk rfl (pad_cons (pdv 12) (pad_cons (pdv 10) pad_nil))) pd_bl (nomark _)))))) (pssd_one (psd_ret pd_bl)) pssd_nil)
    (pssd_one (psd_ret (pd_and (pd_call G_law_is_row (hr.mono (by omega)) tk rfl (pad_cons (pdv 10) (pad_cons (pd_tup (pad_cons (pdv 2) (pad_cons (pdv 3) pad_nil))) pad_nil))) (pd_one (pd_call G_law_is_row (hr.mono (by omega)) tk rfl (pad_cons (pdv 12) (pad_cons (pd_tup (pad_cons (pdv 7) (pad_cons (pdv 8) pad_nil))) pad_nil)))))))))))))))))))))))))), h⟩
end
end K55

set_option maxHeartbeats 4000000
namespace K55
open PySem L2 DL
local macro_rules | `(tactic| walk_at "dl") => `(tactic| simp only [dSeq, dIfS, dB, dTru, truD, dOp, dVar, dC, dAsg, dAug, dCB, dCons, dNil, dRet, dRetN, dName, dGSub, dNext, ends, exOf, dstart, slot, oI0, oI, dAnd, dOr, dNot, dAndV, dOrV, dNotV, dNeg, dSl, dNoP, dPart, dFld, dFldS, dRaise, dLst, dTup, dFor, dIter, dRng1, dRng2, dCall, dMake, dMeth, dIxO, dLc, dYes, dGTup, dGCons, dGNil,
  lenG_T, addD_T, mulD_T, eqD_T, eqD_int, neD_int, itemsOf_T, keepOf_T, tup_T, tup_T1, tupG_T, intG, List.nil_append, bne_iff_ne,
  List.map, List.length_cons, List.length_nil, List.cons_append, List.append_nil, List.replicate, List.set, List.getElem?_cons_zero, List.getElem?_cons_succ, Option.join_some, Option.bind_some, decide_eq_true_eq])
variable {K : PySem.W.Frag} {mg : Str → Option Value} {A : Adr}
theorem getD_rep {b : List Int} : ∀ {k i : Nat}, i < k * b.length → (List.replicate k b).flatten.getD i 0 = b.getD (i % b.length) 0
  | 0, i, h => by omega
  | k + 1, i, h => by
    rw [List.replicate_succ, List.flatten_cons]
    by_cases c : i < b.length
    · rw [getD_append_l c, Nat.mod_eq_of_lt c]
    · rw [getD_append_r (by omega), getD_rep (k := k) (by rw [Nat.succ_mul] at h; omega), ← Nat.mod_eq_sub_mod (by omega)]
theorem len_rep {b : List Int} {k : Nat} : (List.replicate k b).flatten.length = k * b.length := by simp
theorem rep_isP {c : List Int} {s : Nat} (hs : 1 ≤ s) (hd : c.length % s = 0) (hle : s ≤ c.length) : (List.replicate (c.length / s) (c.take s)).flatten = c ↔ IsP c s := by
  have hl : (c.take s).length = s := by rw [List.length_take]; omega
  have hk : c.length / s * s = c.length := Nat.div_mul_cancel (Nat.dvd_of_mod_eq_zero hd)
  constructor
  · intro e
    refine ⟨hd, fun i hi => ?_⟩
    have hlt : i % s < s := Nat.mod_lt _ (by omega)
    rw [← getD_take hlt]
    conv => lhs; rw [← e]
    rw [getD_rep (by rw [hl, hk]; exact hi), hl]
  · rintro ⟨_, h⟩
    refine ext_getD (by rw [len_rep, hl, hk]) fun i hi => ?_
    rw [len_rep, hl, hk] at hi
    rw [getD_rep (by rw [hl, hk]; exact hi), hl, getD_take (Nat.mod_lt _ (by omega)), ← h i hi]
theorem per_eq {c : List Int} (hc : c ≠ []) {s : Nat} (h1 : 1 ≤ s) (h : IsP c s) (hn : ∀ k, 1 ≤ k → k < s → ¬ IsP c k) : per c = s := by
  obtain ⟨a, b, p, m⟩ := per_spec hc
  have := m s h1 h
  by_cases e : per c = s
  · exact e
  · exact absurd p (hn _ a (by omega))
theorem r_turned : ∀ ds M Q E, sp_turned ds M Q E → t_turned K A (ends Q E) (dstart N_turned ds) M := by
  rintro ds M Q E ⟨c, n, hc, hl, rfl, k⟩
  have h0 : 0 < c.length := List.length_pos_iff.mpr hc
  have h2 := Int.emod_nonneg n (show (c.length : Int) ≠ 0 by omega)
  unfold t_turned N_turned
  walk_at "dl"
  rw [slG_post h2, slG_pre h2, addD_T]
  refine ⟨by omega, ?_, dropQ_of k .refl⟩
  rw [List.length_drop, List.length_take, sizeLine_eq]
  omega
theorem r_shortest_cycle : ∀ ds M Q E, sp_shortest_cycle ds M Q E → t_shortest_cycle K A (ends Q E) (dstart N_shortest_cycle ds) M := by
  rintro ds M Q E ⟨c, hc, hl, rfl, k⟩
  have h0 : 0 < c.length := List.length_pos_iff.mpr hc
  unfold t_shortest_cycle N_shortest_cycle
  walk_at "dl"
  refine ⟨by omega, by omega, ?_⟩
  refine dLoop_inv (fun i τ M' => M' = M ∧ (∃ o, τ = [some (T c), o]) ∧ ∀ k, 1 ≤ k → k < i + 1 → ¬ IsP c k) (fun _ _ _ _ _ => trivial) ?_ ?_ ⟨rfl, ⟨_, rfl⟩, fun k h1 h2 => by omega⟩
  · rintro i d τ M nxt hd ⟨rfl, ⟨o, rfl⟩, hn⟩ hnx
    obtain ⟨hi, hd'⟩ := rng_at hd
    subst hd'
    walk_at "dl"
    have e1 : ((c.length : Int) % (1 + (i : Nat)) = 0) ↔ c.length % (i + 1) = 0 := by
      have : (1 + (i : Nat) : Int) = ((i + 1 : Nat) : Int) := by omega
      rw [this, ← Int.natCast_emod]
      omega
    have e2 : ((c.length : Int) / (1 + (i : Nat))).toNat = c.length / (i + 1) := by
      have : (1 + (i : Nat) : Int) = ((i + 1 : Nat) : Int) := by omega
      rw [this, ← Int.natCast_ediv, Int.toNat_natCast]
    have e3 : (1 + (i : Nat) : Int).toNat = i + 1 := by omega
    refine ⟨by omega, ?_⟩
    by_cases c1 : c.length % (i + 1) = 0
    · rw [if_pos (by simpa [e1] using c1), slG_pre (by omega), e3, mulD_T, e2, eqD_T]
      have hdiv : c.length / (i + 1) * (i + 1) = c.length := Nat.div_mul_cancel (Nat.dvd_of_mod_eq_zero c1)
      have hq : ((c.length : Int) / (1 + (i : Nat))) = ((c.length / (i + 1) : Nat) : Int) := by
        have : (1 + (i : Nat) : Int) = ((i + 1 : Nat) : Int) := by omega
        rw [this, ← Int.natCast_ediv]
      have hle : c.length / (i + 1) ≤ c.length := Nat.div_le_self _ _
      refine ⟨⟨by omega, ?_⟩, ⟨by rw [hq]; omega, by rw [hq]; omega, ?_⟩, ?_⟩
      · have : (1 + (i : Int)).natAbs < 2 ^ 10 := by omega
        have h3 : (1 + (i : Int)).natAbs ≠ 0 := by omega
        have := (Nat.log2_lt h3).mpr this
        omega
      · rw [List.length_take, Nat.min_eq_left (by omega), Nat.mul_comm, hdiv, sizeLine_eq]; omega
      · by_cases c2 : IsP c (i + 1)
        · have hs := (rep_isP (c := c) (s := i + 1) (by omega) c1 (by omega)).mpr c2
          rw [hs]
          simp only [decide_true, Bool.false_bne, if_true]
          rw [slG_pre (by omega), e3]
          have := per_eq hc (by omega) c2 fun k h1 h2 => hn k h1 h2
          have e4 : c.take (i + 1) = shortest c := by unfold shortest; rw [this]
          rw [e4]
          exact dropQ_of k .refl
        · have hs : ¬ (List.replicate (c.length / (i + 1)) (c.take (i + 1))).flatten = c := fun e => c2 ((rep_isP (by omega) c1 (by omega)).mp e)
          simp only [hs, decide_false, Bool.false_eq_true, if_false]
          refine hnx _ _ ⟨rfl, ⟨_, rfl⟩, fun k h1 h2 => ?_⟩
          by_cases c3 : k < i + 1
          · exact hn k h1 c3
          · have : k = i + 1 := by omega
            subst this; exact c2
    · rw [if_neg (by simpa [e1] using c1)]
      simp only [Bool.false_eq_true, if_false]
      refine hnx _ _ ⟨rfl, ⟨_, rfl⟩, fun k h1 h2 => ?_⟩
      by_cases c3 : k < i + 1
      · exact hn k h1 c3
      · have : k = i + 1 := by omega
        subst this; exact fun h => c1 h.1
  · rintro τ M ⟨rfl, ⟨o, rfl⟩, hn⟩
    walk_at "dl"
    have e : per c = c.length := per_eq hc (by omega) isP_len fun k h1 h2 => hn k h1 (by rw [len_rng]; omega)
    have e4 : c = shortest c := by unfold shortest; rw [e, List.take_length]
    rw [e4]
    exact dropQ_of k .refl
theorem r_loose_entries : ∀ ds M Q E, sp_loose_entries ds M Q E → t_loose_entries K A (ends Q E) (dstart N_loose_entries ds) M := by
  rintro ds M Q E ⟨h, c, hc, rfl, k⟩
  have h0 : 0 < c.length := List.length_pos_iff.mpr hc
  obtain ⟨n1, n2, n3⟩ := loN_spec h c
  unfold t_loose_entries N_loose_entries
  walk_at "dl"
  refine dWh_inv (fun n τ M' => M' = M ∧ ∃ j : Nat, τ = [some (T h), some (T c), some (.int (j : Nat))] ∧ j ≤ loN h c ∧ n = loN h c - j) ?_ (n := loN h c - 0) ⟨rfl, 0, rfl, by omega, rfl⟩
  rintro n τ M nxt ⟨rfl, j, rfl, hj, rfl⟩ hnx
  walk_at "dl"
  by_cases c1 : (j : Int) < h.length
  · simp only [c1, decide_true, if_true]
    have m1 := Int.emod_lt_of_pos (-1 - (j : Int)) (show (0 : Int) < c.length by omega)
    have m2 := Int.emod_nonneg (-1 - (j : Int)) (show (c.length : Int) ≠ 0 by omega)
    rw [ixG_T (by omega) (by omega)]
    refine ⟨by omega, ?_⟩
    rw [ixG_T m2 m1, eqD_int]
    have e1 : ((h.length : Int) - 1 - (j : Int)).toNat = h.length - 1 - j := by omega
    have e2 : c.getD ((-1 - (j : Int)) % (c.length : Int)).toNat 0 = cyc c (-1 - (j : Int)) := rfl
    rw [e1, e2]
    by_cases c2 : j < loN h c
    · simp only [n2 j c2, decide_true, if_true]
      exact hnx (loN h c - j - 1) (by omega) _ _ ⟨rfl, j + 1, by simp, by omega, by omega⟩
    · have : j = loN h c := by omega
      subst this
      simp only [n3 (by omega), decide_false, Bool.false_eq_true, if_false]
      exact dropQ_of k .refl
  · simp only [c1, decide_false, Bool.false_eq_true, if_false]
    have : j = loN h c := by omega
    subst this
    exact dropQ_of k .refl
theorem r_Row_init (X : Txt K mg A) : ∀ ds M Q E, sp_Row_init A ds M Q E → t_Row_init K A (ends Q E) (dstart N_Row_init ds) M := by
  rintro ds M Q E ⟨a, h, c, rfl, hs, hM, k1, k2⟩
  unfold t_Row_init N_Row_init
  walk_at "dl"
  by_cases c1 : c = []
  · subst c1
    simp only [List.length_nil, Int.natCast_zero, decide_true, if_true]
    exact dropE_of (k2 fun g => g.1 rfl) .refl
  · have h0 : 0 < c.length := List.length_pos_iff.mpr c1
    have e0 : ¬ ((c.length : Int) = 0) := by omega
    simp only [e0, decide_false, Bool.false_eq_true, if_false]
    refine ⟨by have := hs.1; have := hs.2; rw [sizeLine_eq]; omega, ?_⟩
    refine dLoop_inv (fun i τ M' => M' = M ∧ (∃ o, τ = [some (.ref a), some (T h), some (T c), o]) ∧ ∀ j, j < i → j < (h ++ c).length → 0 ≤ (h ++ c).getD j 0) (fun _ _ _ _ _ => trivial) ?_ ?_ ⟨rfl, ⟨_, rfl⟩, fun j h => by omega⟩
    · rintro i d τ M nxt hd ⟨rfl, ⟨o, rfl⟩, hn⟩ hnx
      obtain ⟨hi, rfl⟩ := map_at hd
      walk_at "dl"
      by_cases c2 : (h ++ c).getD i 0 < 0
      · simp only [c2, decide_true, if_true]
        refine dropE_of (k2 fun g => ?_) .refl
        have hm : (h ++ c).getD i 0 ∈ h ++ c := by
          rw [List.getD_eq_getElem?_getD, List.getElem?_eq_getElem hi]
          exact List.getElem_mem hi
        rcases List.mem_append.mp hm with hm | hm
        · have := g.2.1 _ hm; omega
        · have := g.2.2 _ hm; omega
      · simp only [c2, decide_false, Bool.false_eq_true, if_false]
        refine hnx _ _ ⟨rfl, ⟨_, rfl⟩, fun j hj hl => ?_⟩
        by_cases c3 : j < i
        · exact hn j c3 hl
        · have : j = i := by omega
          subst this; omega
    · rintro τ M ⟨rfl, ⟨o, rfl⟩, hn⟩
      rw [List.length_map] at hn
      walk_at "dl"
      simp only [hM]
      refine ⟨X.d_Row_head, by simp, ?_⟩
      simp only [put_same, put_put]
      refine ⟨X.d_Row_cycle, by simp [putFD], ?_⟩
      have hall : ∀ x, x ∈ h ++ c → 0 ≤ x := fun x hx => by
        obtain ⟨j, hj, rfl⟩ := List.getElem_of_mem hx
        have := hn j hj hj
        rwa [List.getD_eq_getElem?_getD, List.getElem?_eq_getElem hj] at this
      exact dropQ_of (k1 ⟨c1, fun x hx => hall x (List.mem_append.mpr (.inl hx)), fun x hx => hall x (List.mem_append.mpr (.inr hx))⟩) .refl
theorem r_Row_getitem (X : Txt K mg A) : ∀ ds M Q E, sp_Row_getitem A ds M Q E → t_Row_getitem K A (ends Q E) (dstart N_Row_getitem ds) M := by
  rintro ds M Q E ⟨a, h, c, i, rfl, hc, hM, k1, k2⟩
  have h0 : 0 < c.length := List.length_pos_iff.mpr hc
  have f1 : ([("head", T h), ("cycle", T c)] : List (Str × D)).lookup ("head" : Str) = some (T h) := rfl
  have f2 : ([("head", T h), ("cycle", T c)] : List (Str × D)).lookup ("cycle" : Str) = some (T c) := rfl
  unfold t_Row_getitem N_Row_getitem
  walk_at "dl"
  by_cases c1 : i < 0
  · simp only [c1, decide_true, if_true]
    exact dropE_of (k2 c1) .refl
  · simp only [c1, decide_false, Bool.false_eq_true, if_false]
    have hM' : M a = some (.ins A.Row [("head", T h), ("cycle", T c)]) := hM
    simp only [hM', f1, f2, X.d_Row_head, X.d_Row_cycle, true_and, lenG_T]
    by_cases c2 : i < h.length
    · simp only [c2, decide_true, if_true]
      rw [ixG_T (by omega) c2]
      have := k1 (by omega)
      rw [rowAt_head (by omega)] at this
      exact dropQ_of this .refl
    · simp only [c2, decide_false, Bool.false_eq_true, if_false]
      have m1 := Int.emod_lt_of_pos (i - h.length) (show (0 : Int) < c.length by omega)
      have m2 := Int.emod_nonneg (i - h.length) (show (c.length : Int) ≠ 0 by omega)
      refine ⟨by omega, ?_⟩
      rw [ixG_T m2 m1]
      have := k1 (by omega)
      rw [rowAt_tail (by omega)] at this
      have e : ((i.toNat : Int) - h.length) = i - h.length := by omega
      rw [e] at this
      exact dropQ_of this .refl
end K55

set_option maxHeartbeats 4000000
namespace K55
open PySem L2 DL
local macro_rules | `(tactic| walk_at "dl") => `(tactic| simp only [dSeq, dIfS, dB, dTru, truD, dOp, dVar, dC, dAsg, dAug, dCB, dCons, dNil, dRet, dRetN, dName, dGSub, dNext, ends, exOf, dstart, slot, oI0, oI, dAnd, dOr, dNot, dAndV, dOrV, dNotV, dNeg, dSl, dNoP, dPart, dFld, dFldS, dRaise, dLst, dTup, dFor, dIter, dRng1, dRng2, dCall, dMake, dMeth, dIxO, dLc, dYes, dGTup, dGCons, dGNil,
  lenG_T, addD_T, mulD_T, eqD_T, eqD_int, neD_int, itemsOf_T, keepOf_T, tup_T, tup_T1, tupG_T, intG, List.nil_append, bne_iff_ne,
  List.map, List.length_cons, List.length_nil, List.cons_append, List.append_nil, List.replicate, List.set, List.getElem?_cons_zero, List.getElem?_cons_succ, Option.join_some, Option.bind_some, decide_eq_true_eq])
variable {K : PySem.W.Frag} {mg : Str → Option Value} {A : Adr}
theorem fHead {h c : List Int} : ([("head", T h), ("cycle", T c)] : List (Str × D)).lookup ("head" : Str) = some (T h) := rfl
theorem fCycle {h c : List Int} : ([("head", T h), ("cycle", T c)] : List (Str × D)).lookup ("cycle" : Str) = some (T c) := rfl
theorem mem_shortest {c : List Int} {x : Int} (h : x ∈ shortest c) : x ∈ c := List.mem_of_mem_take h
theorem mem_turned {c : List Int} {n x : Int} (h : x ∈ turnedL c n) : x ∈ c := by
  unfold turnedL at h
  rcases List.mem_append.mp h with h | h
  · exact List.mem_of_mem_drop h
  · exact List.mem_of_mem_take h
theorem good_pl {h c : List Int} (g : good h c) : good (pl h c).1 (pl h c).2 := by
  obtain ⟨g1, g2, g3⟩ := g
  obtain ⟨l1, l2⟩ := pl_lengths (h := h) g1
  refine ⟨fun e => ?_, fun x hx => g2 x (List.mem_of_mem_take hx), fun x hx => g3 x (mem_shortest (mem_turned hx))⟩
  rw [e] at l2
  have := (per_spec g1).1
  simp at l2
  omega
theorem sized_pl {h c : List Int} (g : c ≠ []) (s : sized h c) : sized (pl h c).1 (pl h c).2 := by
  obtain ⟨l1, l2⟩ := pl_lengths (h := h) g
  have := (per_spec g).2.1
  obtain ⟨s1, s2⟩ := s
  exact ⟨by omega, by omega⟩
theorem turned_ne {c : List Int} {n : Int} (g : c ≠ []) : turnedL c n ≠ [] := fun e => by
  have := turnedL_length (c := c) (n := n)
  rw [e] at this
  have := List.length_pos_iff.mpr g
  simp at *
  omega
theorem good_bh {h c : List Int} {n : Int} (g : good h c) : good (bh h c n).1 (bh h c n).2 := by
  obtain ⟨g1, g2, g3⟩ := g
  unfold bh
  split
  · exact ⟨g1, fun x hx => g2 x (List.mem_of_mem_drop hx), g3⟩
  · exact ⟨turned_ne g1, fun x hx => (by cases hx), fun x hx => g3 x (mem_turned hx)⟩
theorem sized_bh {h c : List Int} {n : Int} (s : sized h c) : sized (bh h c n).1 (bh h c n).2 := by
  obtain ⟨s1, s2⟩ := s
  unfold bh
  split
  · exact ⟨by simp only [List.length_drop]; omega, s2⟩
  · exact ⟨by simp, by simp only [turnedL_length]; exact s2⟩
theorem row_ne {M : Mp} {a p : Addr} {h c : List Int} (r : RowAt M A a h c) (hp : M p = none) : a ≠ p := by
  rintro rfl
  unfold RowAt at r
  rw [r] at hp
  cases hp
theorem RowAt.put {M : Mp} {a p : Addr} {h c : List Int} {o : MO} (r : RowAt M A a h c) (n : a ≠ p) : RowAt (DL.put M p o) A a h c := (put_ne n).trans r
theorem r_Row_start (X : Txt K mg A) : ∀ ds M Q E, sp_Row_start A ds M Q E → t_Row_start K A (ends Q E) (dstart N_Row_start ds) M := by
  rintro ds M Q E ⟨a, h, c, i, rfl, hc, hM, hi, k1, k2⟩
  unfold t_Row_start N_Row_start
  walk_at "dl"
  by_cases c1 : i < 0
  · simp only [c1, decide_true, if_true]
    exact dropE_of (k2 c1) .refl
  · simp only [c1, decide_false, Bool.false_eq_true, if_false]
    refine ⟨by omega, by omega, fun p hp => ?_⟩
    have hpa := row_ne hM hp
    refine dCL_inv (fun j M' => M' = put M p (.lst (((List.range j).map (rowAt h c)).map D.int))) (fun _ _ _ _ => trivial) ?_ ?_ rfl
    · rintro j d M' nxt hd rfl hnx
      obtain ⟨hj, rfl⟩ := rng_at hd
      simp only [wipeD]
      walk_at "dl"
      have hM2 := hM.put (o := .lst (((List.range j).map (rowAt h c)).map D.int)) hpa
      have hM3 : (put M p (.lst (((List.range j).map (rowAt h c)).map D.int))) a = some (.ins A.Row [("head", T h), ("cycle", T c)]) := hM2
      simp only [hM3, if_true, true_and]
      refine ⟨a, h, c, (j : Int), rfl, hc, hM2, fun _ => ?_, fun h => by omega⟩
      simp only [put_same]
      refine ⟨by rw [List.length_map, List.length_map, List.length_range, sizeLine_eq]; omega, hnx _ ?_⟩
      rw [put_put, List.range_succ, List.map_append, List.map_append]
      rfl
    · rintro M' rfl
      rw [len_rng]
      unfold tupG
      simp only [seqOf, put_same]
      exact dropQ_of (k1 (by omega)) (sub_put hp)
theorem r_Row_least (X : Txt K mg A) : ∀ ds M Q E, sp_Row_least A ds M Q E → t_Row_least K A (ends Q E) (dstart N_Row_least ds) M := by
  rintro ds M Q E ⟨a, h, c, rfl, hg, hs, hM, k⟩
  have hM' : M a = some (.ins A.Row [("head", T h), ("cycle", T c)]) := hM
  have hc := hg.1
  have hl := (loN_spec h (shortest c)).1
  unfold t_Row_least N_Row_least
  walk_at "dl"
  simp only [hM', fHead, fCycle, X.d_Row_head, X.d_Row_cycle, true_and, lenG_T]
  refine ⟨c, hc, hs.2, rfl, ?_⟩
  simp only [hM', fHead, fCycle, X.d_Row_head, X.d_Row_cycle, true_and, lenG_T]
  refine ⟨h, shortest c, shortest_ne hc, rfl, ?_⟩
  walk_at "dl"
  simp only [hM', fHead, fCycle, X.d_Row_head, X.d_Row_cycle, true_and, lenG_T]
  rw [slG_pre (by omega)]
  refine ⟨shortest c, -(loN h (shortest c) : Int), shortest_ne hc, by have := hs.2; have := (per_spec hc).2.1; rw [shortest_length hc]; omega, rfl, ?_⟩
  have e : ((h.length : Int) - (loN h (shortest c) : Int)).toNat = h.length - loN h (shortest c) := by omega
  rw [e]
  intro x hx
  refine ⟨x, (pl h c).1, (pl h c).2, rfl, sized_pl hc hs, put_same, fun g => ⟨rfl, ?_⟩, fun g => absurd (good_pl hg) g⟩
  rw [put_put]
  exact dropQ_of (k x hx) .refl
theorem r_Row_after (X : Txt K mg A) : ∀ ds M Q E, sp_Row_after A ds M Q E → t_Row_after K A (ends Q E) (dstart N_Row_after ds) M := by
  rintro ds M Q E ⟨a, h, c, n, rfl, hg, hs, hM, k1, k2⟩
  have hM' : M a = some (.ins A.Row [("head", T h), ("cycle", T c)]) := hM
  have hc := hg.1
  unfold t_Row_after N_Row_after
  walk_at "dl"
  by_cases c1 : n < 0
  · simp only [c1, decide_true, if_true]
    exact dropE_of (k2 c1) .refl
  · simp only [c1, decide_false, Bool.false_eq_true, if_false, hM', fHead, fCycle, X.d_Row_head, X.d_Row_cycle, true_and, lenG_T]
    have fin : ∀ (h' c' : List Int), bh h c n = (h', c') → ∀ x, M x = none → sp_Row_init A [.ref x, T h', T c'] (put M x (.ins A.Row [])) (fun d M2 => d = .non ∧ (match M2 x with
        | some (.ins C' fs) => C' = A.Row ∧ fs.lookup ("least" : Str) = none ∧ sp_Row_least A [.ref x] M2 (dropQ Q) fun x M => dropE E x M
        | _ => False)) fun x M => dropE E x M := by
      intro h' c' e x hx
      have g' := good_bh (n := n) hg
      have s' := sized_bh (n := n) hs
      have k := k1 (by omega)
      rw [e] at g' s' k
      refine ⟨x, h', c', rfl, s', put_same, fun _ => ⟨rfl, ?_⟩, fun g => absurd g' g⟩
      rw [put_put]
      unfold oRow
      simp only [put_same, true_and]
      refine ⟨rfl, x, h', c', rfl, g', s', put_same, fun p hp => ?_⟩
      have hpx : p ≠ x := by rintro rfl; rw [put_same] at hp; cases hp
      rw [put_ne hpx] at hp
      exact dropQ_of (k p hp) (sub_put hx).both
    by_cases c2 : n ≤ h.length
    · simp only [c2, decide_true, if_true]
      rw [slG_post (by omega)]
      simp only [hM', fHead, fCycle, X.d_Row_head, X.d_Row_cycle, true_and, lenG_T]
      exact fin _ _ (by unfold bh; rw [if_pos c2])
    · simp only [c2, decide_false, Bool.false_eq_true, if_false]
      refine ⟨by rw [sizeLine_eq]; omega, c, n - h.length, hc, hs.2, rfl, ?_⟩
      exact fin _ _ (by unfold bh; rw [if_neg c2])
theorem r_same_rows (X : Txt K mg A) : ∀ ds M Q E, sp_same_rows A ds M Q E → t_same_rows K A (ends Q E) (dstart N_same_rows ds) M := by
  rintro ds M Q E ⟨a, b, h, c, h', c', rfl, hg, hs, hg', hs', hM, hM', k⟩
  have e1 : M a = some (.ins A.Row [("head", T h), ("cycle", T c)]) := hM
  have e2 : M b = some (.ins A.Row [("head", T h'), ("cycle", T c')]) := hM'
  unfold t_same_rows N_same_rows
  walk_at "dl"
  simp only [e1, true_and]
  refine ⟨rfl, a, h, c, rfl, hg, hs, hM, fun p hp => ?_⟩
  have nb := row_ne hM' hp
  simp only [put_ne nb, e2, true_and]
  refine ⟨rfl, b, h', c', rfl, hg', hs', hM'.put nb, fun q hq => ?_⟩
  have nq : p ≠ q := by rintro rfl; rw [put_same] at hq; cases hq
  have hq' : M q = none := by rwa [put_ne (Ne.symm nq)] at hq
  simp only [put_ne nq, put_same, oRow, fHead, fCycle, X.d_Row_head, X.d_Row_cycle, true_and, eqD_T]
  have sb : Sub M (put (put M p (oRow A (pl h c).1 (pl h c).2)) q (oRow A (pl h' c').1 (pl h' c').2)) := (sub_put hp).put hq
  have key : ∀ b1 b2 : Bool, b1 = decide ((pl h c).1 = (pl h' c').1) → b2 = decide ((pl h c).2 = (pl h' c').2) → (b1 && b2) = decide (pl h c = pl h' c') := by
    rintro _ _ rfl rfl
    rw [← Bool.decide_and]
    congr 1
    exact propext Prod.ext_iff.symm
  have key := key _ _ rfl rfl
  rw [← key] at k
  unfold oRow at sb
  generalize decide ((pl h c).1 = (pl h' c').1) = b1 at *
  generalize decide ((pl h c).2 = (pl h' c').2) = b2 at *
  cases b1 with
  | true =>
    simp only [if_true]
    rw [Bool.true_and] at k
    exact dropQ_of k sb
  | false =>
    simp only [Bool.false_eq_true, if_false]
    rw [Bool.false_and] at k
    exact dropQ_of k sb
end K55

set_option maxHeartbeats 4000000
namespace K55
open PySem L2 DL
local macro_rules | `(tactic| walk_at "dl") => `(tactic| simp only [dSeq, dIfS, dB, dTru, truD, dOp, dVar, dC, dAsg, dAug, dCB, dCons, dNil, dRet, dRetN, dName, dGSub, dNext, ends, exOf, dstart, slot, oI0, oI, dAnd, dOr, dNot, dAndV, dOrV, dNotV, dNeg, dSl, dNoP, dPart, dFld, dFldS, dRaise, dLst, dTup, dFor, dIter, dRng1, dRng2, dCall, dMake, dMeth, dIxO, dLc, dYes, dGTup, dGCons, dGNil,
  lenG_T, addD_T, addD_int, mulD_int, lstG_T, mulD_T, eqD_T, eqD_int, neD_int, itemsOf_T, keepOf_T, tup_T, tup_T1, tupG_T, intG, List.nil_append, bne_iff_ne,
  List.map, List.length_cons, List.length_nil, List.cons_append, List.append_nil, List.replicate, List.set, List.getElem?_cons_zero, List.getElem?_cons_succ, Option.join_some, Option.bind_some, decide_eq_true_eq])
local macro_rules | `(tactic| walk_at "wp") => `(tactic| simp only [dSeq, dIfS, dB, dOp, dVar, dC, dAsg, dCB, dCons, dNil, dRet, dName, dGSub, dNext, ends, exOf, dstart, slot, oI0, oI, ixG, seqOf, atI, ixN, addD, mulD, intG, lenG, lenD, lstG, tupG, dLst, dTup, dFor, dRng1, dLoop,
  List.map, List.length_cons, List.length_nil, List.append, List.cons_append, List.nil_append, List.replicate, List.set, List.getElem?_cons_zero, List.getElem?_cons_succ, Option.join_some, Option.bind_some, decide_eq_true_eq])
theorem PSt.mk {M : Mp} {s l : Addr} {ns : List Int} {seed pos rest : Int} (n : s ≠ l) (h : M l = some (.lst (ns.map D.int))) (h1 : 0 ≤ seed) (h2 : seed < 2147483647) (h3 : 0 ≤ pos) (h4 : pos ≤ ns.length) (h5 : 0 ≤ rest) : PSt (put M s (.lst [.int seed, .ref l, .int pos, .int rest])) s l ns :=
  ⟨n, (put_ne (Ne.symm n)).trans h, seed, pos, rest, put_same, h1, h2, h3, h4, h5⟩
variable {K : PySem.W.Frag} {A : Adr}
theorem cm1 {i : Int} (h : 0 ≤ i) (h2 : i < 4294967299) : CMulX i 48271 := mulx_ok (a := 33) (b := 16) (by omega) (by decide) (by decide)
theorem cm2 {i : Int} (h : 0 ≤ i) (h2 : i < 4294967299) : CMulX i 69621 := mulx_ok (a := 33) (b := 17) (by omega) (by decide) (by decide)
theorem r_law_pick : ∀ ds M Q E, sp_law_pick ds M Q E → t_law_pick K A (ends Q E) (dstart N_law_pick ds) M := by
  rintro ds M Q E ⟨s, l, ns, limit, rfl, ⟨hsl, hl, seed, pos, rest, hs, h1, h2, h3, h4, h5⟩, hlim, hlog, k⟩
  have hls : l ≠ s := Ne.symm hsl
  have fin : ∀ (M' : Mp) (i : Int) (seed pos rest : Int), M' = put M s (.lst [.int seed, .ref l, .int pos, .int rest]) → 0 ≤ seed → seed < 2147483647 → 0 ≤ pos → pos ≤ ns.length → 0 ≤ rest → dropQ Q (.int (i % limit)) M' := by
    rintro M' i seed pos rest rfl h1 h2 h3 h4 h5
    exact dropQ_of (k _ _ (Int.emod_nonneg _ (by omega)) (Int.emod_lt_of_pos _ hlim) (PSt.mk hsl hl h1 h2 h3 h4 h5)) .refl
  unfold t_law_pick N_law_pick
  walk_at "wp"
  have e10 : CPow 10 18 := by unfold CPow; decide
  have tail : ∀ (z : Int) (pos : Int), 0 ≤ pos → pos ≤ ns.length → CMulX (seed + z % 2147483647 + 1) 48271 ∧ CMulX ((seed + z % 2147483647 + 1) * 48271 % 2147483647) 69621 ∧ CDivW (((seed + z % 2147483647 + 1) * 48271 % 2147483647 * 69621 + 12345) % 2147483647) 7 ∧ 0 < limit ∧
      dropQ Q (.int (((seed + z % 2147483647 + 1) * 48271 % 2147483647 * 69621 + 12345) % 2147483647 / 7 % limit)) (put M s (.lst [.int (((seed + z % 2147483647 + 1) * 48271 % 2147483647 * 69621 + 12345) % 2147483647), .ref l, .int pos, .int rest])) := by
    intro z pos h3 h4
    refine ⟨cm1 (by omega) (by omega), cm2 (by omega) (by omega), ⟨by decide, by decide⟩, hlim, ?_⟩
    exact fin _ _ _ _ _ rfl (by omega) (by omega) h3 h4 h5
  by_cases c : limit ≤ rest
  · simp [hs, put_same, c]
    exact ⟨⟨hlim, hlog⟩, hlim, fin _ _ _ _ _ rfl h1 h2 h3 h4 (Int.ediv_nonneg h5 (by omega))⟩
  · by_cases c2 : pos < ns.length
    · have c3 : pos.toNat < ns.length := by omega
      simp [hs, hl, put_same, put_ne hls, put_put, c, c2, h3, List.getElem?_eq_getElem c3, e10]
      split
      · split
        · exact ⟨⟨hlim, hlog⟩, hlim, fin _ _ _ _ _ rfl h1 h2 (by omega) (by omega) (Int.ediv_nonneg (by omega) (by omega))⟩
        · exact tail _ _ (by omega) (by omega)
      · split
        · exact ⟨⟨hlim, hlog⟩, hlim, fin _ _ _ _ _ rfl h1 h2 (by omega) (by omega) (Int.ediv_nonneg (by omega) (by omega))⟩
        · exact tail _ _ (by omega) (by omega)
    · simp [hs, hl, put_same, put_ne hls, put_put, c, c2, e10]
      exact tail 11 _ (by omega) (by omega)
variable {mg : Str → Option Value}
theorem r_law_start : ∀ ds M Q E, sp_law_start1 ds M Q E → t_law_start K A (ends Q E) (dstart N_law_start ds) M := by
  rintro ds M Q E ⟨a, ns, rfl, hM, hl, k⟩
  have hs := seqOf_rol hM
  unfold t_law_start N_law_start
  walk_at "dl"
  rw [lenG_ref hs, List.length_map]
  simp only
  refine ⟨by omega, by omega, ?_⟩
  refine dLoop_inv (fun i τ M' => M' = M ∧ ∃ (seed : Int) (o : Option D), τ = [some (.ref a), some (.int seed), o] ∧ 0 ≤ seed ∧ seed < 2147483647) (fun _ _ _ _ _ => trivial) ?_ ?_ ⟨rfl, 7, _, rfl, by omega, by omega⟩
  · rintro i d τ M nxt hd ⟨rfl, seed, o, rfl, h1, h2⟩ hnx
    obtain ⟨hi, rfl⟩ := rng_at hd
    walk_at "dl"
    refine ⟨cm1 h1 (by omega), ?_⟩
    rw [ixG_ref hs (by omega) (by omega)]
    walk_at "dl"
    refine ⟨by omega, by omega, hnx _ _ ⟨rfl, _, _, rfl, by omega, by omega⟩⟩
  · rintro τ M ⟨rfl, seed, o, rfl, h1, h2⟩
    walk_at "dl"
    simp only [lstG, hs]
    intro l hl0
    refine ⟨by rw [sizeLine_eq]; omega, fun s hs0 => ?_⟩
    have nsl : s ≠ l := by rintro rfl; rw [put_same] at hs0; cases hs0
    refine dropQ_of (k s l _ ?_ ((sub_put hl0).put hs0)) .refl
    exact PSt.mk nsl put_same h1 h2 (by omega) (by omega) (by omega)
theorem r_law_startK : ∀ ds M Q E, sp_law_start2 K ds M Q E → t_law_startK K A (ends Q E) (dstart N_law_start ds) M := by
  rintro ds M Q E ⟨a, ns, rfl, hM, hl, k⟩
  unfold t_law_startK N_law_start
  walk_at "dl"
  refine ⟨ns, hM, by omega, by omega, ?_⟩
  refine dLoop_inv (fun i τ M' => M' = M ∧ ∃ (seed : Int) (o : Option D), τ = [some (.ref a), some (.int seed), o] ∧ 0 ≤ seed ∧ seed < 2147483647) (fun _ _ _ _ _ => trivial) ?_ ?_ ⟨rfl, 7, _, rfl, by omega, by omega⟩
  · rintro i d τ M nxt hd ⟨rfl, seed, o, rfl, h1, h2⟩ hnx
    obtain ⟨hi, rfl⟩ := rng_at hd
    walk_at "dl"
    refine ⟨cm1 h1 (by omega), ?_⟩
    refine ⟨ns, hM, by omega, by omega, ?_⟩
    walk_at "dl"
    refine ⟨by omega, by omega, hnx _ _ ⟨rfl, _, _, rfl, by omega, by omega⟩⟩
  · rintro τ M ⟨rfl, seed, o, rfl, h1, h2⟩
    walk_at "dl"
    refine ⟨ns, hM, fun l hl0 => ?_⟩
    refine ⟨by rw [sizeLine_eq]; omega, fun s hs0 => ?_⟩
    have nsl : s ≠ l := by rintro rfl; rw [put_same] at hs0; cases hs0
    refine dropQ_of (k s l _ ?_ ((sub_put hl0).put hs0)) .refl
    exact PSt.mk nsl put_same h1 h2 (by omega) (by omega) (by omega)
theorem okS_T {n : Nat} {xs : List Int} (h : xs.length ≤ 100000) : okS (n + 1) (T xs) := by
  unfold T
  rw [okS]
  refine ⟨n, rfl, by simpa using h, fun x hx => ?_⟩
  obtain ⟨i, _, rfl⟩ := List.mem_map.mp hx
  simp [okS, ok]
theorem r_law_same {n : Nat} : ∀ ds M Q E, sp_law_same (n + 1) ds M Q E → t_law_same K A n (ends Q E) (dstart N_law_same ds) M := by
  rintro ds M Q E ⟨d, rfl, hd, k⟩
  unfold t_law_same N_law_same
  have t1 : isB "tuple" "tuple" = true := by decide
  cases d with
  | tup xs =>
    rw [okS] at hd
    obtain ⟨m, rfl, hl, hx⟩ := hd
    walk_at "dl"
    simp only [isiG, tyName, t1, List.mem_cons, true_or, or_true, true_and, if_true, lenG, lenD, neD_int, Bool.not_true, Bool.false_eq_true, if_false, decide_true]
    refine ⟨by omega, by omega, fun p hp => ?_⟩
    refine dCL_inv (fun j M' => M' = put M p (.lst (((List.range j).map fun _ => true).map D.bl))) (fun _ _ _ _ => trivial) ?_ ?_ rfl
    · rintro j d M' nxt hd rfl hnx
      obtain ⟨hj, rfl⟩ := rng_at hd
      simp only [wipeD]
      walk_at "dl"
      have e1 : atI xs (j : Int) = some (xs[j]'(by omega)) := atI_nat (List.getElem?_eq_getElem _)
      simp only [ixG, e1, if_true]
      refine ⟨_, rfl, hx _ (List.getElem_mem _), ?_⟩
      simp only [put_same]
      refine ⟨by rw [List.length_map, List.length_map, List.length_range, sizeLine_eq]; omega, hnx _ ?_⟩
      rw [put_put, List.range_succ, List.map_append, List.map_append]
      rfl
    · rintro M' rfl
      unfold allG
      simp only [seqOf, put_same, Option.bind_some, blsOf_range]
      have e : ((List.range ((List.range xs.length).map fun i => D.int (i : Nat)).length).map fun _ => true).all id = true := by simp
      simp only [Int.toNat_natCast]
      rw [e]
      exact dropQ_of k (sub_put hp)
  | non =>
    walk_at "dl"
    simp [isiG, tyName, isB, isG, isNone]
    exact dropQ_of k .refl
  | bl b =>
    walk_at "dl"
    simp [isiG, tyName, isB, isG, isNone, eqD, eqG, eqOk, ok, dep, eqb]
    exact dropQ_of k .refl
  | int b =>
    walk_at "dl"
    simp [isiG, tyName, isB, isG, isNone]
    exact dropQ_of k .refl
  | str b =>
    walk_at "dl"
    simp [isiG, tyName, isB, isG, isNone, eqD, eqG]
    exact dropQ_of k .refl
  | ref b => simp [okS] at hd
  | ty b => simp [okS] at hd
theorem r_law_at : ∀ ds M Q E, sp_law_at ds M Q E → t_law_at K A (ends Q E) (dstart N_law_at ds) M := by
  rintro ds M Q E ⟨h, c, p, rfl, hc, hp, k⟩
  have h0 : 0 < c.length := List.length_pos_iff.mpr hc
  unfold t_law_at N_law_at
  walk_at "dl"
  by_cases c2 : p < h.length
  · simp only [c2, decide_true, if_true]
    rw [ixG_T (by omega) c2]
    rw [rowAt_head (by omega)] at k
    exact dropQ_of k .refl
  · simp only [c2, decide_false, Bool.false_eq_true, if_false]
    have m1 := Int.emod_lt_of_pos (p - h.length) (show (0 : Int) < c.length by omega)
    have m2 := Int.emod_nonneg (p - h.length) (show (c.length : Int) ≠ 0 by omega)
    refine ⟨by omega, ?_⟩
    rw [ixG_T m2 m1]
    rw [rowAt_tail (by omega)] at k
    have e : ((p.toNat : Int) - h.length) = p - h.length := by omega
    rw [e] at k
    exact dropQ_of k .refl
theorem r_law_is_row (X : Txt K mg A) : ∀ ds M Q E, sp_law_is_row A ds M Q E → t_law_is_row K A (ends Q E) (dstart N_law_is_row ds) M := by
  rintro ds M Q E ⟨a, h, c, rfl, hs, hM, k⟩
  have hM' : M a = some (.ins A.Row [("head", T h), ("cycle", T c)]) := hM
  unfold t_law_is_row N_law_is_row
  walk_at "dl"
  simp only [isiG, tyName, clsOf, hM']
  refine ⟨_, _, rfl, X.i_Row, X.k_row, ?_⟩
  simp only [if_true, hM', fHead, fCycle, X.d_Row_head, X.d_Row_cycle, true_and]
  have i0 : ixG (.tup [T h, T c]) (.int 0) M = fun Q => Q (T h) M := rfl
  have i1 : ixG (.tup [T h, T c]) (.int 1) M = fun Q => Q (T c) M := rfl
  simp only [i0, i1]
  refine ⟨_, rfl, okS_T (by have := hs.1; omega), ?_⟩
  simp only [if_true, hM', fHead, fCycle, X.d_Row_head, X.d_Row_cycle, true_and, i1]
  exact ⟨_, rfl, okS_T (by have := hs.2; omega), dropQ_of k .refl⟩
end K55

set_option maxHeartbeats 4000000
namespace K55
open PySem L2 DL
local macro_rules | `(tactic| walk_at "dl") => `(tactic| simp only [dSeq, dIfS, dB, dTru, truD, dOp, dVar, dC, dAsg, dAug, dCB, dCons, dNil, dRet, dRetN, dName, dGSub, dNext, ends, exOf, dstart, slot, oI0, oI, dAnd, dOr, dNot, dAndV, dOrV, dNotV, dNeg, dSl, dNoP, dPart, dFld, dFldS, dRaise, dLst, dTup, dFor, dIter, dRng1, dRng2, dCall, dMake, dMeth, dIxO, dLc, dYes, dGTup, dGCons, dGNil,
  lenG_T, addD_T, addD_int, mulD_int, lstG_T, mulD_T, eqD_T, eqD_int, neD_int, itemsOf_T, keepOf_T, tup_T, tup_T1, tupG_T, intG, List.nil_append, bne_iff_ne,
  List.map, List.length_cons, List.length_nil, List.cons_append, List.append_nil, List.replicate, List.set, List.getElem?_cons_zero, List.getElem?_cons_succ, Option.join_some, Option.bind_some, decide_eq_true_eq])
theorem cyc_low {c : List Int} {p k : Nat} (h : k ≤ p) (hp : p < c.length) : cyc c ((p : Int) - k) = c.getD (p - k) 0 := by
  have e : (p : Int) - k = ((p - k : Nat) : Int) := by omega
  rw [e, cyc_nat, Nat.mod_eq_of_lt (by omega)]
theorem isP_shift {c : List Int} {k : Nat} (h1 : 1 ≤ k) (hk : c.length % k = 0) : (∀ p, p < c.length → c.getD p 0 = cyc c ((p : Int) - k)) ↔ IsP c k := by
  constructor
  · intro h
    refine ⟨hk, fun i => ?_⟩
    induction i using Nat.strongRecOn with
    | ind i ih =>
      intro hi
      by_cases c1 : i < k
      · rw [Nat.mod_eq_of_lt c1]
      · rw [h i hi, cyc_low (by omega) hi, ih (i - k) (by omega) (by omega), ← Nat.mod_eq_sub_mod (by omega)]
  · rintro ⟨_, h⟩ p hp
    have hle : k ≤ c.length := Nat.le_of_dvd (by omega) (Nat.dvd_of_mod_eq_zero hk)
    by_cases c1 : k ≤ p
    · rw [cyc_low c1 hp, h p hp, h (p - k) (by omega), ← Nat.mod_eq_sub_mod c1]
    · have e : cyc c ((p : Int) - k) = c.getD (c.length + p - k) 0 := by
        have := cyc_add (c := c) ((p : Int) - k) 1
        rw [← this]
        have e : (p : Int) - k + c.length * 1 = ((c.length + p - k : Nat) : Int) := by omega
        rw [e, cyc_nat, Nat.mod_eq_of_lt (show c.length + p - k < c.length by omega)]
      rw [e, h p hp, h (c.length + p - k) (by omega)]
      congr 1
      obtain ⟨q, hq⟩ := Nat.dvd_of_mod_eq_zero hk
      have hq1 : q ≠ 0 := by rintro rfl; rw [Nat.mul_zero] at hq; omega
      have e2 : c.length + p - k = p + k * (q - 1) := by
        obtain ⟨r, rfl⟩ : ∃ r, q = r + 1 := ⟨q - 1, by omega⟩
        rw [hq, Nat.mul_add, Nat.add_sub_cancel]
        omega
      rw [e2, Nat.add_mul_mod_self_left]
theorem shortest_get {c : List Int} {i : Nat} (h : i < per c) : (shortest c).getD i 0 = c.getD i 0 := getD_take h
theorem ent1 {h c : List Int} (hc : c ≠ []) {i : Nat} (hi : i ≤ loN h (shortest c)) (hl : i < h.length) : (h ++ c).getD (h.length - 1 - i + per c) 0 = cyc (shortest c) (-1 - (i : Int)) := by
  obtain ⟨n1, n2, n3⟩ := loN_spec h (shortest c)
  obtain ⟨p1, p2, _⟩ := per_spec hc
  have sl := shortest_length hc
  have sh : cyc (shortest c) (-1 - (i : Int)) = cyc (shortest c) (-1 - (i : Int) + per c) := by
    have := cyc_add (c := shortest c) (-1 - (i : Int)) 1
    rw [← this, sl]
    congr 1
    omega
  by_cases c1 : i < per c
  · rw [getD_append_r (by omega), sh]
    have e : (-1 - (i : Int) + per c) = ((per c - 1 - i : Nat) : Int) := by omega
    rw [e, cyc_nat, sl, Nat.mod_eq_of_lt (by omega)]
    rw [shortest_get (by omega)]
    congr 1
    omega
  · rw [getD_append_l (by omega), sh]
    have := n2 (i - per c) (by omega)
    have e : h.length - 1 - (i - per c) = h.length - 1 - i + per c := by omega
    rw [e] at this
    rw [this]
    congr 1
    omega
theorem ent2 {h c : List Int} (hc : c ≠ []) {i : Nat} (hi : i < per c) : (h ++ c).getD (h.length - loN h (shortest c) + i) 0 = cyc (shortest c) (-(loN h (shortest c) : Int) + i) := by
  obtain ⟨n1, n2, n3⟩ := loN_spec h (shortest c)
  obtain ⟨p1, p2, _⟩ := per_spec hc
  have sl := shortest_length hc
  by_cases c1 : i < loN h (shortest c)
  · rw [getD_append_l (by omega)]
    have := n2 (loN h (shortest c) - 1 - i) (by omega)
    have e : h.length - 1 - (loN h (shortest c) - 1 - i) = h.length - loN h (shortest c) + i := by omega
    rw [e] at this
    rw [this]
    congr 1
    omega
  · rw [getD_append_r (by omega)]
    have e : (-(loN h (shortest c) : Int) + i) = ((i - loN h (shortest c) : Nat) : Int) := by omega
    rw [e, cyc_nat, sl, Nat.mod_eq_of_lt (by omega)]
    rw [shortest_get (by omega)]
    congr 1
    omega
theorem plain1 {h c : List Int} : (h ++ c).take (h.length - loN h (shortest c)) = (pl h c).1 := by
  unfold pl
  simp only
  rw [List.take_append_of_le_length (by omega)]
theorem plain2 {h c : List Int} (hc : c ≠ []) : ((h ++ c).drop (h.length - loN h (shortest c))).take (per c) = (pl h c).2 := by
  obtain ⟨p1, p2, _⟩ := per_spec hc
  have hl : (((h ++ c).drop (h.length - loN h (shortest c))).take (per c)).length = per c := by
    rw [List.length_take, List.length_drop, List.length_append]; omega
  refine ext_getD (by rw [hl, (pl_lengths hc).2]) fun i hi => ?_
  rw [hl] at hi
  rw [getD_take hi, getD_drop, ent2 hc hi]
  show _ = (turnedL (shortest c) _).getD i 0
  rw [turnedL_get (shortest_ne hc) _ (by rw [shortest_length hc]; exact hi)]
theorem ixG_cyc {c : List Int} {M : Mp} {Q : DK} {i : Int} (h0 : -(c.length : Int) ≤ i) (h1 : i < c.length) : ixG (T c) (.int i) M Q = Q (.int (cyc c i)) M := by
  have key : atI (c.map D.int) i = some (.int (cyc c i)) := by
    by_cases c0 : 0 ≤ i
    · rw [atI_T c0 h1]
      unfold cyc
      rw [Int.emod_eq_of_lt c0 h1]
    · unfold atI ixN
      rw [List.length_map, if_neg c0, if_pos h0, Option.bind_some, List.getElem?_map, getD_of (by omega)]
      unfold cyc
      have : i % (c.length : Int) = i + c.length := by
        have := Int.add_mul_emod_self_left i (c.length : Int) 1
        rw [← this, Int.emod_eq_of_lt (by omega) (by omega)]
        omega
      rw [this]
      rfl
  unfold T ixG
  simp only
  rw [key]
variable {K : PySem.W.Frag} {mg : Str → Option Value} {A : Adr}
theorem r_law_least : ∀ ds M Q E, sp_law_least ds M Q E → t_law_least K A (ends Q E) (dstart N_law_least ds) M := by
  rintro ds M Q E ⟨h, c, rfl, hc, hs, k⟩
  obtain ⟨s1, s2⟩ := hs
  have h0 : 0 < c.length := List.length_pos_iff.mpr hc
  obtain ⟨p1, p2, pp, pm⟩ := per_spec hc
  obtain ⟨n1, n2, n3⟩ := loN_spec h (shortest c)
  unfold t_law_least N_law_least
  walk_at "dl"
  refine ⟨by omega, by omega, ?_⟩
  refine dLoop_inv (fun i τ M' => Sub M M' ∧ ∃ o, τ = [some (T h), some (T c), some (.int c.length), some (.int ((if per c ≤ i then per c else c.length : Nat) : Int)), o, none, none, none]) (fun _ _ _ _ _ => trivial) ?_ ?_
    ⟨.refl, _, by rw [if_neg (by omega)]⟩
  · rintro i d τ M1 nxt hd ⟨sb, o, rfl⟩ hnx
    obtain ⟨hi, rfl⟩ := rng_at hd
    walk_at "dl"
    have ek : ((1 + (i : Nat) : Int)) = ((i + 1 : Nat) : Int) := by omega
    rw [ek]
    by_cases c1 : per c ≤ i
    · have e1 : ¬ (((if per c ≤ i then per c else c.length : Nat) : Int) = c.length) := by rw [if_pos c1]; omega
      simp only [e1, decide_false, Bool.false_eq_true, if_false]
      exact hnx _ _ ⟨sb, _, by rw [if_pos c1, if_pos (by omega)]⟩
    · have e1 : (((if per c ≤ i then per c else c.length : Nat) : Int) = c.length) := by rw [if_neg c1]
      simp only [e1, decide_true, if_true]
      refine ⟨by omega, ?_⟩
      rw [← Int.natCast_emod]
      by_cases c2 : c.length % (i + 1) = 0
      · simp only [c2, Int.natCast_zero, decide_true, if_true]
        refine ⟨by omega, by omega, fun p hp => ?_⟩
        refine dCL_inv (fun j M' => M' = put M1 p (.lst (((List.range j).map fun q : Nat => decide (cyc c (q : Int) = cyc c ((q : Int) - (i + 1 : Nat)))).map D.bl))) (fun _ _ _ _ => trivial) ?_ ?_ rfl
        · rintro j d M' nxt2 hd rfl hnx2
          obtain ⟨hj, rfl⟩ := rng_at hd
          simp only [wipeD]
          walk_at "dl"
          simp only [if_true]
          have hle : i + 1 ≤ c.length := by omega
          rw [ixG_cyc (by omega) (by omega), ixG_cyc (by omega) (by omega), eqD_int]
          simp only [put_same]
          refine ⟨by rw [List.length_map, List.length_map, List.length_range, sizeLine_eq]; omega, hnx2 _ ?_⟩
          rw [put_put, List.range_succ, List.map_append, List.map_append]
          rfl
        · rintro M' rfl
          rw [len_rng]
          unfold allG
          simp only [seqOf, put_same, Option.bind_some, blsOf_range, Int.toNat_natCast]
          have key : ((List.range c.length).map fun q : Nat => decide (cyc c (q : Int) = cyc c ((q : Int) - (i + 1 : Nat)))).all id = decide (IsP c (i + 1)) := by
            rw [Bool.eq_iff_iff, decide_eq_true_iff, ← isP_shift (by omega) c2, List.all_eq_true]
            constructor
            · intro hh p hp
              have := hh _ (List.mem_map.mpr ⟨p, List.mem_range.mpr hp, rfl⟩)
              have := of_decide_eq_true this
              rw [cyc_nat, Nat.mod_eq_of_lt hp] at this
              exact this
            · intro hh x hx
              obtain ⟨p, hp, rfl⟩ := List.mem_map.mp hx
              refine decide_eq_true ?_
              rw [cyc_nat, Nat.mod_eq_of_lt (List.mem_range.mp hp)]
              exact hh p (List.mem_range.mp hp)
          rw [key]
          by_cases c3 : IsP c (i + 1)
          · simp only [c3, decide_true, if_true]
            have := pm _ (by omega) c3
            have e : per c = i + 1 := by omega
            exact hnx _ _ ⟨sb.put hp, _, by rw [if_pos (by omega), e]⟩
          · simp only [c3, decide_false, Bool.false_eq_true, if_false]
            have e : ¬ per c = i + 1 := fun e => c3 (by rw [← e]; exact pp)
            exact hnx _ _ ⟨sb.put hp, _, by rw [if_neg (by omega)]⟩
      · have e2 : ¬ (((c.length % (i + 1) : Nat) : Int) = 0) := by omega
        simp only [e2, decide_false, Bool.false_eq_true, if_false]
        have e : ¬ per c = i + 1 := fun e => c2 (by rw [← e]; exact pp.1)
        exact hnx _ _ ⟨sb, _, by rw [if_neg (by omega)]⟩
  · rintro τ M1 ⟨sb, o, rfl⟩
    rw [len_rng]
    have e1 : (if per c ≤ ((c.length : Int) - 1).toNat then per c else c.length) = per c := by split <;> omega
    rw [e1]
    walk_at "dl"
    refine ⟨by rw [sizeLine_eq]; omega, by omega, by omega, ?_⟩
    refine dLoop_inv (fun i τ M' => M' = M1 ∧ ∃ o, τ = [some (T h), some (T c), some (.int c.length), some (.int (per c)), o, some (T (h ++ c)), some (.int ((h.length - min i (loN h (shortest c)) : Nat) : Int)), none]) (fun _ _ _ _ _ => trivial) ?_ ?_
      ⟨rfl, o, by simp⟩
    · rintro i d τ M2 nxt hd ⟨rfl, o, rfl⟩ hnx
      obtain ⟨hi, rfl⟩ := rng_at hd
      walk_at "dl"
      by_cases c1 : i ≤ loN h (shortest c)
      · have e2 : ((h.length - min i (loN h (shortest c)) : Nat) : Int) = (h.length : Int) - (i : Nat) := by omega
        simp only [e2, decide_true, if_true]
        rw [ixG_T (by omega) (by rw [List.length_append]; omega)]
        rw [ixG_T (by omega) (by rw [List.length_append]; omega), eqD_int]
        have e3 : ((h.length : Int) - (i : Nat) - 1).toNat = h.length - 1 - i := by omega
        have e4 : ((h.length : Int) - (i : Nat) - 1 + (per c : Nat)).toNat = h.length - 1 - i + per c := by omega
        rw [e3, e4, ent1 hc c1 (by omega), getD_append_l (by omega)]
        by_cases c2 : i < loN h (shortest c)
        · simp only [n2 i c2, decide_true, if_true]
          exact hnx _ _ ⟨rfl, _, by
            have : (h.length : Int) - (i : Nat) - 1 = ((h.length - min (i + 1) (loN h (shortest c)) : Nat) : Int) := by omega
            rw [this]⟩
        · have e5 : i = loN h (shortest c) := by omega
          have := n3 (by omega)
          rw [← e5] at this
          simp only [this, decide_false, Bool.false_eq_true, if_false]
          exact hnx _ _ ⟨rfl, _, by
            have : (h.length : Int) - (i : Nat) = ((h.length - min (i + 1) (loN h (shortest c)) : Nat) : Int) := by omega
            rw [this]⟩
      · have e2 : ¬ (((h.length - min i (loN h (shortest c)) : Nat) : Int) = (h.length : Int) - (i : Nat)) := by omega
        simp only [e2, decide_false, Bool.false_eq_true, if_false]
        exact hnx _ _ ⟨rfl, _, by
          have : (h.length - min i (loN h (shortest c)) : Nat) = (h.length - min (i + 1) (loN h (shortest c)) : Nat) := by omega
          rw [this]⟩
    · rintro τ M2 ⟨rfl, o, rfl⟩
      rw [len_rng]
      walk_at "dl"
      have e2 : ((h.length - min (Int.toNat (h.length : Int)) (loN h (shortest c)) : Nat)) = h.length - loN h (shortest c) := by omega
      rw [e2, slG_pre (by omega), slG_mid (by omega) (by omega) (by rw [List.length_append]; omega)]
      have e3 : (((h.length - loN h (shortest c) : Nat) : Int) + (per c : Nat) - ((h.length - loN h (shortest c) : Nat) : Int)).toNat = per c := by omega
      rw [e3, Int.toNat_natCast, plain1, plain2 hc]
      exact ⟨by rw [sizeLine_eq]; omega, dropQ_of k sb⟩
theorem bh1 {h c : List Int} {n : Int} (hn : 0 ≤ n) : (List.range (max ((h.length : Int) - n) 0).toNat).map (fun p => rowAt h c (n + (p : Nat)).toNat) = (bh h c n).1 := by
  unfold bh
  split
  · rename_i c1
    refine ext_getD (by simp; omega) fun i hi => ?_
    rw [List.length_map, List.length_range] at hi
    rw [getD_drop, List.getD_eq_getElem?_getD, List.getElem?_map, List.getElem?_range hi]
    simp only [Option.map_some, Option.getD_some]
    rw [rowAt_head (by omega)]
    congr 1
    omega
  · have : (max ((h.length : Int) - n) 0).toNat = 0 := by omega
    rw [this]
    rfl
theorem bh2 {h c : List Int} {n : Int} (hc : c ≠ []) (hn : 0 ≤ n) : (List.range c.length).map (fun p => rowAt h c (n + max ((h.length : Int) - n) 0 + (p : Nat)).toNat) = (bh h c n).2 := by
  unfold bh
  split
  · rename_i c1
    refine ext_getD (by simp) fun i hi => ?_
    rw [List.length_map, List.length_range] at hi
    rw [List.getD_eq_getElem?_getD, List.getElem?_map, List.getElem?_range hi]
    simp only [Option.map_some, Option.getD_some]
    unfold rowAt
    rw [if_neg (by omega)]
    have : (n + max ((h.length : Int) - n) 0 + (i : Nat)).toNat - h.length = i := by omega
    rw [this, Nat.mod_eq_of_lt hi]
  · rename_i c1
    refine ext_getD (by simp [turnedL_length]) fun i hi => ?_
    rw [List.length_map, List.length_range] at hi
    rw [List.getD_eq_getElem?_getD, List.getElem?_map, List.getElem?_range hi]
    simp only [Option.map_some, Option.getD_some]
    rw [rowAt_tail (by omega), turnedL_get hc _ hi]
    congr 1
    omega
theorem r_law_behind : ∀ ds M Q E, sp_law_behind ds M Q E → t_law_behind K A (ends Q E) (dstart N_law_behind ds) M := by
  rintro ds M Q E ⟨h, c, n, rfl, hc, hs, hn, k⟩
  have hs' := sized_bh (n := n) hs
  obtain ⟨s1, s2⟩ := hs
  have h0 : 0 < c.length := List.length_pos_iff.mpr hc
  have hc' : (bh h c n).2 ≠ [] := by
    unfold bh
    split
    · exact hc
    · exact turned_ne hc
  unfold t_law_behind N_law_behind
  walk_at "dl"
  simp only [mmG]
  have em : (if 0 > (h.length : Int) - n then 0 else (h.length : Int) - n) = max ((h.length : Int) - n) 0 := by omega
  rw [em]
  refine ⟨by omega, by omega, fun p hp => ?_⟩
  refine dCL_inv (fun j M' => M' = put M p (.lst (((List.range j).map fun q : Nat => rowAt h c (n + (q : Nat)).toNat).map D.int))) (fun _ _ _ _ => trivial) ?_ ?_ rfl
  · rintro j d M' nxt2 hd rfl hnx2
    obtain ⟨hj, rfl⟩ := rng_at hd
    simp only [wipeD]
    walk_at "dl"
    simp only [if_true, addD]
    refine ⟨h, c, n + (j : Nat), rfl, hc, by omega, ?_⟩
    simp only [put_same]
    refine ⟨by rw [List.length_map, List.length_map, List.length_range, sizeLine_eq]; omega, hnx2 _ ?_⟩
    rw [put_put, List.range_succ, List.map_append, List.map_append]
    rfl
  · rintro M' rfl
    rw [len_rng, bh1 hn]
    simp only [tupG, seqOf, put_same]
    refine ⟨by omega, by omega, fun q hq => ?_⟩
    refine dCL_inv (fun j M' => M' = put (put M p (.lst ((bh h c n).1.map D.int))) q (.lst (((List.range j).map fun q : Nat => rowAt h c (n + max ((h.length : Int) - n) 0 + (q : Nat)).toNat).map D.int))) (fun _ _ _ _ => trivial) ?_ ?_ rfl
    · rintro j d M' nxt2 hd rfl hnx2
      obtain ⟨hj, rfl⟩ := rng_at hd
      simp only [wipeD]
      walk_at "dl"
      simp only [if_true, addD]
      refine ⟨h, c, n + max ((h.length : Int) - n) 0 + (j : Nat), rfl, hc, by omega, ?_⟩
      simp only [put_same]
      refine ⟨by rw [List.length_map, List.length_map, List.length_range, sizeLine_eq]; omega, hnx2 _ ?_⟩
      rw [put_put, List.range_succ, List.map_append, List.map_append]
      rfl
    · rintro M' rfl
      rw [len_rng, Int.toNat_natCast, bh2 hc hn]
      simp only [seqOf, put_same]
      refine ⟨(bh h c n).1, (bh h c n).2, rfl, hc', hs', dropQ_of k ((sub_put hp).put hq)⟩
end K55

set_option maxHeartbeats 4000000
namespace K55
open PySem L2 DL
local macro_rules | `(tactic| walk_at "dl") => `(tactic| simp only [dSeq, dIfS, dB, dTru, truD, dOp, dVar, dC, dAsg, dAug, dCB, dCons, dNil, dRet, dRetN, dName, dGSub, dNext, ends, exOf, dstart, slot, oI0, oI, dAnd, dOr, dNot, dAndV, dOrV, dNotV, dNeg, dSl, dNoP, dPart, dFld, dFldS, dRaise, dLst, dTup, dFor, dIter, dRng1, dRng2, dCall, dMake, dMeth, dIxO, dLc, dYes, dGTup, dGCons, dGNil,
  lenG_T, addD_T, addD_int, mulD_int, lstG_T, mulD_T, eqD_T, eqD_int, neD_int, itemsOf_T, keepOf_T, tup_T, tup_T1, tupG_T, intG, List.nil_append, bne_iff_ne,
  List.map, List.length_cons, List.length_nil, List.cons_append, List.append_nil, List.replicate, List.set, List.getElem?_cons_zero, List.getElem?_cons_succ, Option.join_some, Option.bind_some, decide_eq_true_eq])
variable {K : PySem.W.Frag} {mg : Str → Option Value} {A : Adr} {M0 M M' : Mp} {s l p q : Addr} {ns xs ys : List Int} {Q : DK} {E : EK}
/-! ### the draws -/
theorem seq_split {t u : DS} {Dn : DN} {τ : Sl} {M : Mp} (R : Sl → Mp → Prop) (h2 : ∀ τ M, R τ M → u Dn τ M) (h1 : ∀ nx : Sl → Mp → Prop, (∀ τ M, R τ M → nx τ M) → t { Dn with nx := nx } τ M) : dSeq t u Dn τ M := h1 _ h2
theorem Ext.refl : Ext s M M := fun _ _ _ h => h
theorem Ext.trans {M1 M2 M3 : Mp} (a : Ext s M1 M2) (b : Ext s M2 M3) : Ext s M1 M3 := fun p o n h => b p o n (a p o n h)
structure LS (M0 M : Mp) (s l : Addr) (ns : List Int) : Prop where
  P : PSt M s l ns
  X : Ext s M0 M
structure LL (M0 M : Mp) (s l p : Addr) (xs : List Int) : Prop where
  a : M p = some (.lst (xs.map D.int))
  z : M0 p = none
  ns : p ≠ s
  nl : p ≠ l
theorem PSt.s_some (h : PSt M s l ns) (hp : M p = none) : p ≠ s ∧ p ≠ l := by
  obtain ⟨_, hl, _, _, _, hs, _⟩ := h
  refine ⟨fun e => ?_, fun e => ?_⟩
  · subst e; rw [hs] at hp; cases hp
  · subst e; rw [hl] at hp; cases hp
theorem PSt.put (h : PSt M s l ns) (n1 : p ≠ s) (n2 : p ≠ l) {o : MO} : PSt (DL.put M p o) s l ns := by
  obtain ⟨n, hl, a, b, c, hs, r⟩ := h
  exact ⟨n, (put_ne (Ne.symm n2)).trans hl, a, b, c, (put_ne (Ne.symm n1)).trans hs, r⟩
theorem LS.zero (J : LS M0 M s l ns) (hp : M p = none) : M0 p = none := by
  have n := (J.P.s_some hp).1
  cases e : M0 p with
  | none => rfl
  | some o => rw [J.X p o n e] at hp; cases hp
theorem LS.put (J : LS M0 M s l ns) (z : M0 p = none) (n1 : p ≠ s) (n2 : p ≠ l) {o : MO} : LS M0 (DL.put M p o) s l ns := ⟨J.P.put n1 n2, fun a u n h => by
  have := J.X a u n h
  rw [put_ne]
  · exact this
  · rintro rfl; rw [z] at h; cases h⟩
theorem LS.new (J : LS M0 M s l ns) (hp : M p = none) {o : MO} : LS M0 (DL.put M p o) s l ns := J.put (J.zero hp) (J.P.s_some hp).1 (J.P.s_some hp).2
theorem LL.new (J : LS M0 M s l ns) (hp : M p = none) : LL M0 (DL.put M p (.lst (xs.map D.int))) s l p xs := ⟨put_same, J.zero hp, (J.P.s_some hp).1, (J.P.s_some hp).2⟩
theorem LL.ext (h : LL M0 M s l p xs) (e : Ext s M M') : LL M0 M' s l p xs := ⟨e _ _ h.ns h.a, h.z, h.ns, h.nl⟩
theorem LL.put (h : LL M0 M s l p xs) (n : q ≠ p) {o : MO} : LL M0 (DL.put M q o) s l p xs := ⟨(put_ne (Ne.symm n)).trans h.a, h.z, h.ns, h.nl⟩
theorem LL.set (h : LL M0 M s l p xs) : LL M0 (DL.put M p (.lst (ys.map D.int))) s l p ys := ⟨put_same, h.z, h.ns, h.nl⟩
theorem LL.ne (h : LL M0 M s l p xs) (hq : M q = none) : q ≠ p := by rintro rfl; rw [h.a] at hq; cases hq
theorem LL.lay (h : LL M0 M s l p xs) (hq : M q = none) {o : MO} : LL M0 (DL.put M q o) s l p xs := h.put (h.ne hq)
theorem LL.seq (h : LL M0 M s l p xs) : seqOf M p = some (xs.map D.int) := seqOf_lst h.a
theorem LS.pick (J : LS M0 M s l ns) {limit : Int} (h0 : 0 < limit) (hl : limit.natAbs.log2 < 9000) (k : ∀ (r : Int) (M' : Mp), 0 ≤ r → r < limit → LS M0 M' s l ns → Ext s M M' → Q (.int r) M') : sp_law_pick [.ref s, .int limit] M Q E :=
  ⟨s, l, ns, limit, rfl, J.P, h0, hl, fun r o h1 h2 h3 => by
    have e : Ext s M (DL.put M s o) := fun a u n h => (put_ne n).trans h
    exact k r _ h1 h2 ⟨h3, J.X.trans e⟩ e⟩
theorem Ext.lay (hp : M p = none) {o : MO} : Ext s M (DL.put M p o) := fun a u n h => by
  rw [put_ne]
  · exact h
  · rintro rfl; rw [h] at hp; cases hp
theorem log_small {i : Int} (h : i.natAbs < 2 ^ 20) : i.natAbs.log2 < 9000 := by
  by_cases e : i.natAbs = 0
  · rw [e]; decide
  · have := (Nat.log2_lt e).mpr h
    omega
/-- a draw out of a written list -/
theorem LS.choose (J : LS M0 M s l ns) (vs : List Int) {n : Int} (hn : (vs.length : Int) = n) (h0 : 0 < vs.length) (h1 : vs.length < 1000) (k : ∀ (v : Int) (M' : Mp), v ∈ vs → LS M0 M' s l ns → Ext s M M' → Q (.int v) M') {ds : List D} (hd : ds = vs.map D.int) :
    ∀ p, M p = none → sp_law_pick [.ref s, .int n] (DL.put M p (.lst ds)) (fun y M2 => ixG (.ref p) y M2 Q) E := by
  subst hd
  intro p hp
  refine (J.new hp).pick (by omega) (log_small (by omega)) fun r M' r0 r1 J' e => ?_
  have L : LL M0 M' s l p vs := (LL.new J hp).ext e
  rw [ixG_ref L.seq r0 (by omega)]
  refine k _ M' ?_ J' ((Ext.lay hp).trans e)
  rw [List.getD_eq_getElem?_getD, List.getElem?_eq_getElem (by omega)]
  exact List.getElem_mem _
/-- draws one by one -/
theorem LS.draws (J : LS M0 M s l ns) {top : Int} {n : Int} (h0 : 0 < top) (hl : top.natAbs.log2 < 9000) (hn : n ≤ 100000) {g : D → Sl → Sl} {te : DE} {τ : Sl} {F : Addr → Mp → Prop}
    (hte : ∀ i M' Q', sp_law_pick [.ref s, .int top] M' Q' noE → te (g (.int (i : Nat)) τ) M' Q' noE)
    (k : ∀ p xs M', M p = none → (∀ x, x ∈ xs → 0 ≤ x ∧ x < top) → xs.length = n.toNat → LS M0 M' s l ns → LL M0 M' s l p xs → (∀ q ys, LL M0 M s l q ys → LL M0 M' s l q ys) → F p M') :
    ∀ p, M p = none → dCL g dYes te (fun _ => True) p τ (F p) ((List.range n.toNat).map fun i => D.int (i : Nat)) (DL.put M p (.lst [])) := by
  intro p hp
  refine dCL_inv (fun j M' => LS M0 M' s l ns ∧ (∀ q ys, LL M0 M s l q ys → LL M0 M' s l q ys) ∧ ∃ xs, LL M0 M' s l p xs ∧ xs.length = j ∧ ∀ x, x ∈ xs → 0 ≤ x ∧ x < top) (fun _ _ _ _ => trivial) ?_ ?_ ⟨J.new hp, fun q ys h => h.lay hp, [], LL.new (xs := []) J hp, rfl, fun x h => by cases h⟩
  · rintro j d M' nxt hd ⟨J', X', xs, L, hx, hr⟩ hnx
    obtain ⟨hj, rfl⟩ := rng_at hd
    unfold dYes
    simp only [if_true]
    refine hte j M' _ (J'.pick h0 hl fun r M2 r0 r1 J2 e2 => ?_)
    have L2 := L.ext e2
    simp only [L2.a]
    refine ⟨by rw [List.length_map, sizeLine_eq]; omega, hnx _ ⟨J2.put L2.z L2.ns L2.nl, fun q ys h => ?_, xs ++ [r], ?_, by simp [hx], fun x h => ?_⟩⟩
    · have n : p ≠ q := h.ne hp
      exact ((X' q ys h).ext e2).put n
    · have := L2.set (ys := xs ++ [r])
      simpa using this
    · rcases List.mem_append.mp h with h | h
      · exact hr x h
      · simp at h; subst h; exact ⟨r0, r1⟩
  · rintro M' ⟨J', X', xs, L, hx, hr⟩
    exact k p xs M' hp hr (by rw [hx, len_rng]) J' L X'
theorem mod_in {i top : Int} (h : 0 < top) : 0 ≤ i % top ∧ i % top < top := ⟨Int.emod_nonneg _ (by omega), Int.emod_lt_of_pos _ h⟩
theorem set_in {top v : Int} {i : Nat} (h : ∀ x, x ∈ xs → 0 ≤ x ∧ x < top) (hv : 0 ≤ v ∧ v < top) : ∀ x, x ∈ xs.set i v → 0 ≤ x ∧ x < top := fun x hx => by
  rcases List.mem_or_eq_of_mem_set hx with hx | rfl
  · exact h x hx
  · exact hv
/-- some list's item one further, modulo top -/
theorem LS.bump (J : LS M0 M s l ns) {c : Addr} (L : LL M0 M s l c xs) {top : Int} (ht : 0 < top) {i : Int} (h0 : 0 ≤ i) (h1 : i < xs.length) {ic it : Nat} {Dn : DN} {τ : Sl} {ii : Nat} (e1 : slot τ ic = some (.ref c)) (e2 : slot τ ii = some (.int i)) (e3 : slot τ it = some (.int top))
    (k : ∀ M', LS M0 M' s l ns → LL M0 M' s l c (xs.set i.toNat ((xs.getD i.toNat 0 + 1) % top)) → (∀ q ys, q ≠ c → LL M0 M s l q ys → LL M0 M' s l q ys) → Dn.nx τ M') :
    dAsg (dOp (oI (fun _ j => 0 < j) fun i j => .int (i % j)) (dCB intG (dCons (dOp addD (dOp ixG (dVar ic) (dVar ii)) (dC (.int 1))) dNil)) (dVar it)) (dGSub (dVar ic) (dVar ii)) Dn τ M := by
  simp only [dAsg, dOp, dVar, e1, e2, e3, dCB, dCons, dNil, dC, dGSub]
  rw [ixG_ref L.seq h0 h1, addD_int]
  simp only [intG, oI]
  refine ⟨ht, ?_⟩
  simp only [L.a, List.length_map]
  rw [ixN_in h0 h1]
  simp only
  have e : (xs.map D.int).set i.toNat (.int ((xs.getD i.toNat 0 + 1) % top)) = (xs.set i.toNat ((xs.getD i.toNat 0 + 1) % top)).map D.int := by rw [List.map_set]
  rw [e]
  exact k _ (J.put L.z L.ns L.nl) L.set fun q ys n h => h.put (Ne.symm n)
theorem r_law_row : ∀ ds M Q E, sp_law_row ds M Q E → t_law_row K A (ends Q E) (dstart N_law_row ds) M := by
  rintro ds M Q E ⟨s, l, ns, rfl, hP, k⟩
  have J0 : LS M M s l ns := ⟨hP, .refl⟩
  generalize hM0 : M = M0 at *
  unfold t_law_row N_law_row
  simp only [dstart, List.map, List.length_cons, List.length_nil, List.replicate, List.cons_append, List.nil_append]
  -- top
  refine seq_split (fun τ M => LS M0 M s l ns ∧ ∃ top : Int, 2 ≤ top ∧ top.natAbs.log2 < 9000 ∧ τ = [some (.ref s), some (.int top), none, none, none, none, none, none, none]) ?_ ?_
  rotate_left
  · intro nx hnx
    walk_at "dl"
    refine ⟨by unfold CPow; decide, by rw [sizeLine_eq]; omega, ?_⟩
    refine J0.choose [2, 3, 10 ^ 60] rfl (by decide) (by decide) (fun v M' hv J e => ?_) rfl
    refine hnx _ _ ⟨J, v, ?_, ?_, rfl⟩
    · simp only [List.mem_cons, List.not_mem_nil, or_false] at hv
      rcases hv with rfl | rfl | rfl <;> decide
    · simp only [List.mem_cons, List.not_mem_nil, or_false] at hv
      rcases hv with rfl | rfl | rfl <;> decide +kernel
  rintro τ M1 ⟨J1, top, t1, t2, rfl⟩
  -- block
  refine seq_split (fun τ M => LS M0 M s l ns ∧ ∃ b xs, LL M0 M s l b xs ∧ (∀ x, x ∈ xs → 0 ≤ x ∧ x < top) ∧ 1 ≤ xs.length ∧ xs.length ≤ 40 ∧ τ = [some (.ref s), some (.int top), some (.ref b), none, none, none, none, none, none]) ?_ ?_
  rotate_left
  · intro nx hnx
    walk_at "dl"
    refine ⟨by rw [sizeLine_eq]; omega, ?_⟩
    refine J1.choose [3, 8, 40] rfl (by decide) (by decide) (fun v M' hv J e => ?_) rfl
    have hv' : 3 ≤ v ∧ v ≤ 40 := by
      simp only [List.mem_cons, List.not_mem_nil, or_false] at hv
      omega
    refine J.pick (by omega) (log_small (by omega)) fun r M2 r0 r1 J2 e2 => ?_
    walk_at "dl"
    refine ⟨by omega, by omega, ?_⟩
    refine J2.draws (by omega) t2 (by omega) (fun i M' Q' h => ?_) fun p xs M' _ hx hn J3 L3 _ => ?_
    · exact h
    · exact hnx _ _ ⟨J3, p, xs, L3, hx, by omega, by omega, rfl⟩
  rintro τ M2 ⟨J2, b, xs, Lb, hx, x1, x2, rfl⟩
  -- cycle
  refine seq_split (fun τ M => LS M0 M s l ns ∧ ∃ c ys, LL M0 M s l c ys ∧ (∀ x, x ∈ ys → 0 ≤ x ∧ x < top) ∧ 1 ≤ ys.length ∧ ys.length ≤ 400 ∧ τ = [some (.ref s), some (.int top), some (.ref b), some (.ref c), none, none, none, none, none]) ?_ ?_
  rotate_left
  · intro nx hnx
    walk_at "dl"
    refine ⟨by rw [sizeLine_eq]; omega, ?_⟩
    refine J2.choose [2, 4, 10] rfl (by decide) (by decide) (fun v M' hv J e => ?_) rfl
    have hv' : 2 ≤ v ∧ v ≤ 10 := by
      simp only [List.mem_cons, List.not_mem_nil, or_false] at hv
      omega
    refine J.pick (by omega) (log_small (by omega)) fun r M3 r0 r1 J3 e3 => ?_
    walk_at "dl"
    have L3 := (Lb.ext e).ext e3
    rw [mulD_ref L3.a]
    have hle : xs.length * (1 + r).toNat ≤ 40 * 10 := Nat.mul_le_mul x2 (by omega)
    have hge : 1 * 1 ≤ (1 + r).toNat * xs.length := Nat.mul_le_mul (by omega) x1
    rw [Nat.mul_comm] at hle
    refine ⟨⟨by omega, by omega, by rw [sizeLine_eq, Nat.mul_comm]; omega⟩, fun p hp => hnx _ _ ⟨J3.new hp, p, _, LL.new J3 hp, fun x h => ?_, by rw [len_rep]; omega, by rw [len_rep]; omega, rfl⟩⟩
    obtain ⟨ys, h1, h2⟩ := List.mem_flatten.mp h
    exact hx x (by rw [(List.mem_replicate.mp h1).2] at h2; exact h2)
  rintro τ M3 ⟨J3, c, ys, Lc, hy, y1, y2, rfl⟩
  -- one of the cycle
  refine seq_split (fun τ M => LS M0 M s l ns ∧ ∃ ys o, LL M0 M s l c ys ∧ (∀ x, x ∈ ys → 0 ≤ x ∧ x < top) ∧ 1 ≤ ys.length ∧ ys.length ≤ 400 ∧ τ = [some (.ref s), some (.int top), some (.ref b), some (.ref c), o, none, none, none, none]) ?_ ?_
  rotate_left
  · intro nx hnx
    simp only [dIfS, dB, dOp, dCall, dCons, dVar, dC, dNil, slot, List.getElem?_cons_zero, List.getElem?_cons_succ, Option.join_some, List.append_nil]
    refine J3.pick (by omega) (by decide) fun r M4 r0 r1 J4 e4 => ?_
    rw [eqD_int]
    simp only
    split
    · refine seq_split (fun τ M => LS M0 M s l ns ∧ LL M0 M s l c ys ∧ ∃ i : Int, 0 ≤ i ∧ i < ys.length ∧ τ = [some (.ref s), some (.int top), some (.ref b), some (.ref c), some (.int i), none, none, none, none]) ?_ ?_
      rotate_left
      · intro nx hnx
        walk_at "dl"
        have L4 := Lc.ext e4
        rw [lenG_ref L4.seq, List.length_map]
        refine J4.pick (by omega) (log_small (by omega)) fun r M5 r0 r1 J5 e5 => ?_
        exact hnx _ _ ⟨J5, L4.ext e5, r, r0, r1, rfl⟩
      rintro τ M5 ⟨J5, L5, i, i0, i1, rfl⟩
      refine J5.bump L5 (top := top) (by omega) i0 i1 rfl rfl rfl fun M' J' L' _ => ?_
      exact hnx _ _ ⟨J', _, _, L', set_in hy (mod_in (by omega)), by rw [List.length_set]; omega, by rw [List.length_set]; omega, rfl⟩
    · exact hnx _ _ ⟨J4, _, _, Lc.ext e4, hy, y1, y2, rfl⟩
  rintro τ M4 ⟨J4, ys, o4, Lc, hy, y1, y2, rfl⟩
  -- head
  refine seq_split (fun τ M => LS M0 M s l ns ∧ LL M0 M s l c ys ∧ ∃ h zs, LL M0 M s l h zs ∧ h ≠ c ∧ (∀ x, x ∈ zs → 0 ≤ x ∧ x < top) ∧ zs.length ≤ 199 ∧ τ = [some (.ref s), some (.int top), some (.ref b), some (.ref c), o4, some (.ref h), none, none, none]) ?_ ?_
  rotate_left
  · intro nx hnx
    walk_at "dl"
    refine ⟨by rw [sizeLine_eq]; omega, ?_⟩
    refine J4.choose [1, 5, 200] rfl (by decide) (by decide) (fun v M' hv J e => ?_) rfl
    have hv' : 1 ≤ v ∧ v ≤ 200 := by
      simp only [List.mem_cons, List.not_mem_nil, or_false] at hv
      omega
    refine J.pick (by omega) (log_small (by omega)) fun r M2 r0 r1 J2 e2 => ?_
    walk_at "dl"
    refine ⟨by omega, by omega, ?_⟩
    refine J2.draws (by omega) t2 (by omega) (fun i M' Q' h => ?_) fun p xs M' hp hx hn J3 L3 X3 => ?_
    · exact h
    · have L := (Lc.ext e).ext e2
      exact hnx _ _ ⟨J3, X3 _ _ L, p, xs, L3, L.ne hp, hx, by omega, rfl⟩
  rintro τ M5 ⟨J5, Lc, h, zs, Lh, nhc, hz, z1, rfl⟩
  -- back
  refine seq_split (fun τ M => LS M0 M s l ns ∧ LL M0 M s l c ys ∧ LL M0 M s l h zs ∧ ∃ back : Int, 0 ≤ back ∧ back ≤ 199 ∧ τ = [some (.ref s), some (.int top), some (.ref b), some (.ref c), o4, some (.ref h), some (.int back), none, none]) ?_ ?_
  rotate_left
  · intro nx hnx
    walk_at "dl"
    refine ⟨by rw [sizeLine_eq]; omega, ?_⟩
    refine J5.choose [1, 9, 200] rfl (by decide) (by decide) (fun v M' hv J e => ?_) rfl
    have hv' : 1 ≤ v ∧ v ≤ 200 := by
      simp only [List.mem_cons, List.not_mem_nil, or_false] at hv
      omega
    refine J.pick (by omega) (log_small (by omega)) fun r M2 r0 r1 J2 e2 => ?_
    exact hnx _ _ ⟨J2, (Lc.ext e).ext e2, (Lh.ext e).ext e2, r, r0, by omega, rfl⟩
  rintro τ M6 ⟨J6, Lc, Lh, back, b0, b1, rfl⟩
  have hq : back / (ys.length : Int) ≤ back := Int.ediv_le_self _ b0
  have hq0 : 0 ≤ back / (ys.length : Int) := Int.ediv_nonneg b0 (by omega)
  -- more
  refine seq_split (fun τ M => LS M0 M s l ns ∧ LL M0 M s l c ys ∧ LL M0 M s l h zs ∧ ∃ m ms, LL M0 M s l m ms ∧ m ≠ c ∧ m ≠ h ∧ (∀ x, x ∈ ms → 0 ≤ x ∧ x < top) ∧ back ≤ ms.length ∧ ms.length ≤ 400 * 200 ∧ τ = [some (.ref s), some (.int top), some (.ref b), some (.ref c), o4, some (.ref h), some (.int back), some (.ref m), none]) ?_ ?_
  rotate_left
  · intro nx hnx
    walk_at "dl"
    rw [lenG_ref Lc.seq, List.length_map]
    refine ⟨⟨by omega, log_small (by omega)⟩, ?_⟩
    rw [mulD_ref Lc.a]
    have hle : ys.length * (back / (ys.length : Int) + 1).toNat ≤ 400 * 200 := Nat.mul_le_mul y2 (by omega)
    refine ⟨⟨by omega, by omega, by rw [sizeLine_eq]; omega⟩, fun p hp => hnx _ _ ⟨J6.new hp, Lc.lay hp, Lh.lay hp, p, _, LL.new J6 hp, Lc.ne hp, Lh.ne hp, fun x h => ?_, ?_, by rw [len_rep, Nat.mul_comm]; omega, rfl⟩⟩
    · obtain ⟨zs, h1, h2⟩ := List.mem_flatten.mp h
      exact hy x (by rw [(List.mem_replicate.mp h1).2] at h2; exact h2)
    · rw [len_rep]
      have e1 := Int.mul_ediv_add_emod back (ys.length : Int)
      have e2 := Int.emod_lt_of_pos back (show (0 : Int) < ys.length by omega)
      rw [Int.natCast_mul, Int.toNat_of_nonneg (by omega), Int.add_mul, Int.mul_comm]
      omega
  rintro τ M7 ⟨J7, Lc, Lh, m, ms, Lm, nmc, nmh, hm, m1, m2, rfl⟩
  -- head + more
  refine seq_split (fun τ M => LS M0 M s l ns ∧ LL M0 M s l c ys ∧ ∃ h zs, LL M0 M s l h zs ∧ h ≠ c ∧ (∀ x, x ∈ zs → 0 ≤ x ∧ x < top) ∧ zs.length ≤ 398 ∧ τ = [some (.ref s), some (.int top), some (.ref b), some (.ref c), o4, some (.ref h), some (.int back), some (.ref m), none]) ?_ ?_
  rotate_left
  · intro nx hnx
    walk_at "dl"
    rw [lenG_ref Lm.seq, List.length_map]
    simp only
    rw [slG_rpost Lm.seq (by omega)]
    intro p hp
    have Lp := LL.new (xs := ms.drop ((ms.length : Int) - back).toNat) J7 hp
    rw [addD_ref (Lh.lay hp).a Lp.a]
    have hl : (ms.drop ((ms.length : Int) - back).toNat).length = back.toNat := by rw [List.length_drop]; omega
    refine ⟨by rw [hl, sizeLine_eq]; omega, fun q hq => hnx _ _ ⟨(J7.new hp).new hq, (Lc.lay hp).lay hq, q, _, LL.new (J7.new hp) hq, (Lc.lay hp).ne hq, fun x hx => ?_, by rw [List.length_append, hl]; omega, rfl⟩⟩
    rcases List.mem_append.mp hx with hx | hx
    · exact hz x hx
    · exact hm x (List.mem_of_mem_drop hx)
  rintro τ M8 ⟨J8, Lc, h, zs, Lh, nhc, hz, z1, rfl⟩
  -- one of the head
  refine seq_split (fun τ M => LS M0 M s l ns ∧ LL M0 M s l c ys ∧ ∃ zs o, LL M0 M s l h zs ∧ (∀ x, x ∈ zs → 0 ≤ x ∧ x < top) ∧ zs.length ≤ 398 ∧ τ = [some (.ref s), some (.int top), some (.ref b), some (.ref c), o, some (.ref h), some (.int back), some (.ref m), none]) ?_ ?_
  rotate_left
  · intro nx hnx
    simp only [dIfS, dAnd, dB, dOp, dCall, dCB, dCons, dVar, dC, dNil, slot, List.getElem?_cons_zero, List.getElem?_cons_succ, Option.join_some, List.append_nil, oI0]
    rw [lenG_ref Lh.seq, List.length_map]
    simp only [decide_eq_true_eq]
    split
    · refine J8.pick (by omega) (by decide) fun r M4 r0 r1 J4 e4 => ?_
      rw [eqD_int]
      simp only [decide_eq_true_eq]
      split
      · refine seq_split (fun τ M => LS M0 M s l ns ∧ LL M0 M s l c ys ∧ LL M0 M s l h zs ∧ ∃ i : Int, 0 ≤ i ∧ i < zs.length ∧ τ = [some (.ref s), some (.int top), some (.ref b), some (.ref c), some (.int i), some (.ref h), some (.int back), some (.ref m), none]) ?_ ?_
        rotate_left
        · intro nx hnx
          walk_at "dl"
          have L4 := Lh.ext e4
          rw [lenG_ref L4.seq, List.length_map]
          refine J4.pick (by omega) (log_small (by omega)) fun r M5 r0 r1 J5 e5 => ?_
          exact hnx _ _ ⟨J5, (Lc.ext e4).ext e5, L4.ext e5, r, r0, r1, rfl⟩
        rintro τ M5 ⟨J5, Lc5, L5, i, i0, i1, rfl⟩
        refine J5.bump L5 (top := top) (by omega) i0 i1 rfl rfl rfl fun M' J' L' X' => ?_
        exact hnx _ _ ⟨J', X' _ _ (Ne.symm nhc) Lc5, _, _, L', set_in hz (mod_in (by omega)), by rw [List.length_set]; omega, rfl⟩
      · exact hnx _ _ ⟨J4, Lc.ext e4, _, _, Lh.ext e4, hz, z1, rfl⟩
    · exact hnx _ _ ⟨J8, Lc, _, _, Lh, hz, z1, rfl⟩
  rintro τ M9 ⟨J9, Lc, zs, o, Lh, hz, z1, rfl⟩
  walk_at "dl"
  rw [tupG_ref Lh.seq]
  rw [tupG_ref Lc.seq]
  refine ⟨by rw [sizeLine_eq]; omega, fun p hp => dropQ_of (k p _ zs ys top (J9.P.s_some hp).1 (J9.new hp).P (J9.new hp).X put_same ?_ y2 (by omega) ⟨t1, hz, hy⟩) .refl⟩
  rintro rfl
  simp at y1
end K55

set_option maxHeartbeats 4000000
namespace K55
open PySem L2 DL
local macro_rules | `(tactic| walk_at "dl") => `(tactic| simp only [dSeq, dIfS, dB, dTru, truD, dOp, dVar, dC, dAsg, dAug, dCB, dCons, dNil, dRet, dRetN, dName, dGSub, dNext, ends, exOf, dstart, slot, oI0, oI, dAnd, dOr, dNot, dAndV, dOrV, dNotV, dNeg, dSl, dNoP, dPart, dFld, dFldS, dRaise, dLst, dTup, dFor, dIter, dRng1, dRng2, dCall, dMake, dMeth, dIxO, dLc, dYes, dGTup, dGCons, dGNil,
  lenG_T, addD_T, addD_int, mulD_int, lstG_T, mulD_T, eqD_T, eqD_int, neD_int, itemsOf_T, keepOf_T, tup_T, tup_T1, tupG_T, intG, List.nil_append, bne_iff_ne,
  List.map, List.length_cons, List.length_nil, List.cons_append, List.append_nil, List.replicate, List.set, List.getElem?_cons_zero, List.getElem?_cons_succ, Option.join_some, Option.bind_some, decide_eq_true_eq])
variable {K : PySem.W.Frag} {mg : Str → Option Value} {A : Adr} {M0 M M' : Mp} {s l p q : Addr} {ns xs ys : List Int} {Q : DK} {E : EK}
theorem rowAt_join {h c : List Int} {i : Nat} (hi : i < h.length + c.length) : rowAt h c i = (h ++ c).getD i 0 := by
  by_cases c1 : i < h.length
  · rw [rowAt_head c1, getD_append_l c1]
  · rw [getD_append_r (by omega)]
    unfold rowAt
    rw [if_neg c1, Nat.mod_eq_of_lt (by omega)]
theorem turn_eq {c : List Int} {t : Nat} (h : t < c.length) : c.drop t ++ c.take t = turnedL c t := by
  unfold turnedL
  rw [Int.emod_eq_of_lt (by omega) (by omega)]
  rfl
theorem rowAt_other {h c : List Int} {t k : Nat} (hc : c ≠ []) (ht : t < c.length) (hk : 1 ≤ k) (i : Nat) : rowAt (h ++ c.take t) (List.replicate k (c.drop t ++ c.take t)).flatten i = rowAt h c i := by
  have h0 : 0 < c.length := List.length_pos_iff.mpr hc
  have hl : (h ++ c.take t).length = h.length + t := by rw [List.length_append, List.length_take]; omega
  have hl2 : (c.drop t ++ c.take t).length = c.length := by rw [List.length_append, List.length_drop, List.length_take]; omega
  by_cases c1 : i < h.length
  · rw [rowAt_head (by omega), rowAt_head c1, getD_append_l c1]
  · by_cases c2 : i < h.length + t
    · rw [rowAt_head (by omega), getD_append_r (by omega), getD_take (by omega)]
      unfold rowAt
      rw [if_neg c1, Nat.mod_eq_of_lt (by omega)]
    · unfold rowAt
      rw [if_neg (by omega), if_neg c1, hl, len_rep, hl2]
      have hkl : 0 < k * c.length := Nat.mul_pos hk h0
      rw [getD_rep (by rw [hl2]; exact Nat.mod_lt _ hkl), hl2, turn_eq ht, Nat.mod_mul_left_mod, turnedL_get hc _ (Nat.mod_lt _ h0)]
      have e : ((t : Int) + ((i - (h.length + t)) % c.length : Nat)) = ((t + (i - (h.length + t)) % c.length : Nat) : Int) := by omega
      rw [e, cyc_nat]
      congr 1
      rw [Nat.add_mod_mod]
      congr 1
      omega
theorem r_law_other : ∀ ds M Q E, sp_law_other ds M Q E → t_law_other K A (ends Q E) (dstart N_law_other ds) M := by
  rintro ds M Q E ⟨s, l, ns, h, c, rfl, hP, hc, c1, h1, k⟩
  have J0 : LS M M s l ns := ⟨hP, .refl⟩
  have h0 : 0 < c.length := List.length_pos_iff.mpr hc
  unfold t_law_other N_law_other
  walk_at "dl"
  simp only [mmG]
  have e1 : (if (401 : Int) - h.length < c.length then (401 : Int) - h.length else c.length) = min (c.length : Int) (401 - h.length) := by omega
  rw [e1]
  refine J0.pick (by omega) (log_small (by omega)) fun t M1 t0 t1 J1 e2 => ?_
  walk_at "dl"
  rw [slG_post t0, slG_pre t0]
  simp only [addD_T]
  refine ⟨by rw [List.length_drop, List.length_take, sizeLine_eq]; omega, ?_⟩
  have hd0 : (0 : Int) ≤ 400 / (c.length : Int) := Int.ediv_nonneg (by omega) (by omega)
  have hd1 : (1 : Int) ≤ 400 / (c.length : Int) := by rw [Int.le_ediv_iff_mul_le (by omega)]; omega
  have hd2 : (400 : Int) / (c.length : Int) * c.length ≤ 400 := Int.ediv_mul_le _ (by omega)
  refine ⟨⟨by omega, log_small (by omega)⟩, ?_⟩
  have e3 : (if (400 : Int) / (c.length : Int) < 3 then (400 : Int) / (c.length : Int) else 3) = min 3 (400 / (c.length : Int)) := by omega
  rw [e3]
  refine J1.pick (by omega) (log_small (by omega)) fun r M2 r0 r1 J2 e4 => ?_
  walk_at "dl"
  have hl2 : (c.drop t.toNat ++ c.take t.toNat).length = c.length := by rw [List.length_append, List.length_drop, List.length_take]; omega
  have hk : c.length * (1 + r).toNat ≤ 400 := by
    have : (c.length : Int) * ((1 + r).toNat : Int) ≤ 400 := by
      have h3 : ((1 + r).toNat : Int) ≤ 400 / (c.length : Int) := by omega
      have := Int.mul_le_mul_of_nonneg_left h3 (show (0 : Int) ≤ c.length by omega)
      rw [Int.mul_comm (c.length : Int) (400 / (c.length : Int))] at this
      omega
    exact_mod_cast this
  rw [hl2]
  refine ⟨⟨by omega, by omega, by rw [sizeLine_eq]; omega⟩, ?_⟩
  rw [slG_pre t0]
  simp only [addD_T]
  refine ⟨by rw [List.length_take, sizeLine_eq]; omega, by rw [sizeLine_eq]; omega, fun p hp => ?_⟩
  refine dropQ_of (k p _ _ _ (J2.P.s_some hp).1 (J2.new hp).P (J2.new hp).X put_same ?_ ?_ ?_ ?_ ?_ ?_) .refl
  · intro e
    have := congrArg List.length e
    rw [len_rep, hl2] at this
    have : 1 * 1 ≤ (1 + r).toNat * c.length := Nat.mul_le_mul (by omega) (by omega)
    simp at *
    omega
  · rw [len_rep, hl2, Nat.mul_comm]; exact hk
  · rw [List.length_append, List.length_take]; omega
  · intro x hx
    rcases List.mem_append.mp hx with hx | hx
    · exact .inl hx
    · exact .inr (List.mem_of_mem_take hx)
  · intro x hx
    obtain ⟨zs, z1, z2⟩ := List.mem_flatten.mp hx
    rw [(List.mem_replicate.mp z1).2] at z2
    rcases List.mem_append.mp z2 with hx | hx
    · exact List.mem_of_mem_drop hx
    · exact List.mem_of_mem_take hx
  · intro i
    exact rowAt_other hc (by omega) (by omega) i
theorem step_ne {x top : Int} (h : 2 ≤ top) (h0 : 0 ≤ x) (h1 : x < top) : (x + 1) % top ≠ x := by
  intro e
  by_cases c : x + 1 < top
  · rw [Int.emod_eq_of_lt (by omega) c] at e; omega
  · have : x + 1 = top := by omega
    rw [this, Int.emod_self] at e
    omega
theorem r_law_bent : ∀ ds M Q E, sp_law_bent ds M Q E → t_law_bent K A (ends Q E) (dstart N_law_bent ds) M := by
  rintro ds M Q E ⟨s, l, ns, h, c, top, rfl, hP, hc, ⟨s1, s2⟩, ⟨t1, hh, hcc⟩, k⟩
  have J0 : LS M M s l ns := ⟨hP, .refl⟩
  have h0 : 0 < c.length := List.length_pos_iff.mpr hc
  have hall : ∀ x, x ∈ h ++ c → 0 ≤ x ∧ x < top := fun x hx => (List.mem_append.mp hx).elim (hh x) (hcc x)
  unfold t_law_bent N_law_bent
  walk_at "dl"
  refine J0.pick (by omega) (log_small (by omega)) fun r M1 r0 r1 J1 e1 => ?_
  walk_at "dl"
  refine ⟨by rw [sizeLine_eq]; omega, fun p hp => ?_⟩
  have L1 := LL.new (xs := h ++ c) J1 hp
  rw [ixG_ref L1.seq r0 (by rw [List.length_append]; omega)]
  walk_at "dl"
  refine ⟨by omega, ?_⟩
  simp only [L1.a, List.length_map]
  rw [ixN_in r0 (by rw [List.length_append]; omega)]
  simp only
  generalize hv : ((h ++ c).getD r.toNat 0 + 1) % top = v
  have e : ((h ++ c).map D.int).set r.toNat (.int v) = ((h ++ c).set r.toNat v).map D.int := by rw [List.map_set]
  rw [e, put_put]
  have J2 : LS M (put M1 p (.lst (((h ++ c).set r.toNat v).map D.int))) s l ns := J1.new hp
  have L2 : LL M (put M1 p (.lst (((h ++ c).set r.toNat v).map D.int))) s l p ((h ++ c).set r.toNat v) := LL.new J1 hp
  rw [slG_rpre L2.seq (by omega)]
  intro q hq
  have L3 := LL.new (xs := ((h ++ c).set r.toNat v).take (h.length : Int).toNat) J2 hq
  rw [tupG_ref L3.seq]
  rw [slG_rpost (L2.lay hq).seq (by omega)]
  intro q2 hq2
  have L4 := LL.new (xs := ((h ++ c).set r.toNat v).drop (h.length : Int).toNat) (J2.new hq) hq2
  rw [tupG_ref L4.seq]
  refine ⟨by rw [sizeLine_eq]; omega, fun q3 hq3 => ?_⟩
  have J5 := (J2.new hq (o := .lst ((((h ++ c).set r.toNat v).take (h.length : Int).toNat).map D.int))).new hq2 (o := .lst ((((h ++ c).set r.toNat v).drop (h.length : Int).toNat).map D.int))
  have er : r = ((r.toNat : Nat) : Int) := by omega
  have hset : ∀ x, x ∈ (h ++ c).set r.toNat v → 0 ≤ x ∧ x < top := set_in hall (by rw [← hv]; exact mod_in (by omega))
  have hx : 0 ≤ (h ++ c).getD r.toNat 0 ∧ (h ++ c).getD r.toNat 0 < top := hall _ (by
    rw [List.getD_eq_getElem?_getD, List.getElem?_eq_getElem (by rw [List.length_append]; omega)]
    exact List.getElem_mem _)
  have hp1 : (((h ++ c).set r.toNat v).take (h.length : Int).toNat).length = h.length := by rw [List.length_take, List.length_set, List.length_append]; omega
  have hp2 : (((h ++ c).set r.toNat v).drop (h.length : Int).toNat).length = c.length := by rw [List.length_drop, List.length_set, List.length_append]; omega
  refine dropQ_of (k q3 _ _ _ r.toNat (J5.P.s_some hq3).1 (J5.new hq3).P (J5.new hq3).X (by rw [put_same, ← er]) hp1 hp2 ⟨t1, fun x hx => hset x (List.mem_of_mem_take hx), fun x hx => hset x (List.mem_of_mem_drop hx)⟩ (by omega) ?_) .refl
  rw [rowAt_join (by omega), rowAt_join (by omega), List.take_append_drop]
  have : ((h ++ c).set r.toNat v).getD r.toNat 0 = v := by
    rw [List.getD_eq_getElem?_getD, List.getElem?_set_self (by rw [List.length_append]; omega)]
    rfl
  rw [this, ← hv]
  exact step_ne t1 hx.1 hx.2
theorem ix2a {a b : D} : ixG (.tup [a, b]) (.int 0) M Q = Q a M := rfl
theorem ix2b {a b : D} : ixG (.tup [a, b]) (.int 1) M Q = Q b M := rfl
theorem r_law_asked (X : Txt K mg A) : ∀ ds M Q E, sp_law_asked A ds M Q E → t_law_asked K A (ends Q E) (dstart N_law_asked ds) M := by
  rintro ds M Q E ⟨way, a, i, hr, cr, h, c, rfl, hM, hg, hs, hs', hi, hq⟩
  have hM' : M a = some (.ins A.Row [("head", T hr), ("cycle", T cr)]) := hM
  unfold t_law_asked N_law_asked dTryAs
  simp only [dstart, List.map, List.length_cons, List.length_nil, List.replicate, List.cons_append, List.nil_append]
  generalize hX : hAs K (.ref A.ProofsError) 5 _ (ends Q E) = ex
  have exc : Q refused M → ∀ M', Sub M M' → ex (xOut A) [some (.int way), some (.ref a), some (.int i), some (T h), some (T c), none, none] M' := by
    intro hq M' sb
    rw [← hX]
    refine ⟨true, X.e_or, fun _ b hb => ?_, fun h => by cases h⟩
    walk_at "dl"
    simp only [isxG, xOut, caught, true_and]
    refine ⟨_, _, _, rfl, X.c_or, .inl ⟨_, rfl, rfl⟩, X.k_sm, ?_⟩
    simp only [Bool.false_eq_true, if_false]
    refine ⟨_, _, _, rfl, X.c_or, .inl ⟨_, rfl, rfl⟩, X.k_tl, ?_⟩
    simp only [Bool.false_eq_true, if_false]
    refine ⟨_, _, _, rfl, X.c_or, .inl ⟨_, rfl, rfl⟩, X.k_it, ?_⟩
    skip
    refine ⟨_, _, _, rfl, X.c_or, .inl ⟨_, rfl, rfl⟩, X.k_or, ?_⟩
    simp only [if_true]
    refine ⟨_, _, _, rfl, X.c_or, .inr ⟨_, rfl, rfl⟩, X.k_ve, ?_⟩
    exact ⟨by rw [sizeLine_eq]; omega, dropQ_of hq sb⟩
  clear hX
  have two : ∀ {x : D} {M' : Mp}, Sub M M' → Q (told x) M → 0 + 1 + 1 ≤ sizeLine ∧ dropQ Q (.tup [.str "told", x]) M' := fun sb h => ⟨by rw [sizeLine_eq]; omega, dropQ_of h sb⟩
  rcases hq with ⟨rfl, i0, hq⟩ | ⟨rfl, i0, hq⟩ | ⟨rfl, i0, hq⟩ | ⟨hw, i0, hq⟩ | ⟨rfl, ng, hq⟩
  · walk_at "dl"
    simp only [decide_true, if_true, hM', true_and]
    exact ⟨a, hr, cr, i, rfl, hg.1, hM, fun _ => two .refl hq, fun h => by omega⟩
  · walk_at "dl"
    simp only [show ¬ (1 : Int) = 0 by omega, decide_false, Bool.false_eq_true, if_false, decide_true, if_true, hM', true_and]
    exact ⟨rfl, a, hr, cr, i, rfl, hg.1, hM, hi, fun _ => two .refl hq, fun h => by omega⟩
  · walk_at "dl"
    simp only [show ¬ (2 : Int) = 0 by omega, show ¬ (2 : Int) = 1 by omega, decide_false, Bool.false_eq_true, if_false, decide_true, if_true, hM', true_and]
    refine ⟨rfl, a, hr, cr, i, rfl, hg, hs, hM, fun _ p hp => ?_, fun h => by omega⟩
    simp only [put_same, oRow, fHead, X.d_Row_head, true_and]
    exact two (sub_put hp) hq
  · rcases hw with rfl | rfl | rfl
    · walk_at "dl"
      simp only [decide_true, if_true, hM', true_and]
      exact ⟨a, hr, cr, i, rfl, hg.1, hM, fun h => by omega, fun _ => exc hq _ .refl⟩
    · walk_at "dl"
      simp only [show ¬ (1 : Int) = 0 by omega, decide_false, Bool.false_eq_true, if_false, decide_true, if_true, hM', true_and]
      exact ⟨rfl, a, hr, cr, i, rfl, hg.1, hM, hi, fun h => by omega, fun _ => exc hq _ .refl⟩
    · walk_at "dl"
      simp only [show ¬ (2 : Int) = 0 by omega, show ¬ (2 : Int) = 1 by omega, decide_false, Bool.false_eq_true, if_false, decide_true, if_true, hM', true_and]
      exact ⟨rfl, a, hr, cr, i, rfl, hg, hs, hM, fun h => by omega, fun _ => exc hq _ .refl⟩
  · walk_at "dl"
    simp only [show ¬ (3 : Int) = 0 by omega, show ¬ (3 : Int) = 1 by omega, show ¬ (3 : Int) = 2 by omega, decide_false, Bool.false_eq_true, if_false]
    intro x hx
    exact ⟨x, h, c, rfl, hs', put_same, fun g => absurd g ng, fun _ => exc hq _ (sub_put hx)⟩
end K55

set_option maxHeartbeats 4000000
namespace K55
open PySem L2 DL
local macro_rules | `(tactic| walk_at "dl") => `(tactic| simp only [dSeq, dIfS, dB, dTru, truD, dOp, dVar, dC, dAsg, dAug, dCB, dCons, dNil, dRet, dRetN, dName, dGSub, dNext, ends, exOf, dstart, slot, oI0, oI, dAnd, dOr, dNot, dAndV, dOrV, dNotV, dNeg, dSl, dNoP, dPart, dFld, dFldS, dRaise, dLst, dTup, dFor, dIter, dRng1, dRng2, dCall, dMake, dMeth, dIxO, dLc, dYes, dGTup, dGCons, dGNil,
  lenG_T, addD_T, addD_int, mulD_int, lstG_T, mulD_T, eqD_T, eqD_int, neD_int, itemsOf_T, keepOf_T, tup_T, tup_T1, tupG_T, intG, List.nil_append, bne_iff_ne,
  List.map, List.length_cons, List.length_nil, List.cons_append, List.append_nil, List.replicate, List.set, List.getElem?_cons_zero, List.getElem?_cons_succ, Option.join_some, Option.bind_some, decide_eq_true_eq])
variable {K : PySem.W.Frag} {mg : Str → Option Value} {A : Adr} {M0 M M' : Mp} {s l p q : Addr} {ns xs ys : List Int} {Q : DK} {E : EK}
theorem rowAt_bh {h c : List Int} {n : Int} (hc : c ≠ []) (hn : 0 ≤ n) (i : Nat) : rowAt (bh h c n).1 (bh h c n).2 i = rowAt h c (n + (i : Nat)).toNat := by
  have h0 : 0 < c.length := List.length_pos_iff.mpr hc
  unfold bh
  split
  · rename_i c1
    unfold rowAt
    simp only [List.length_drop]
    by_cases c2 : i < h.length - n.toNat
    · rw [if_pos c2, if_pos (by omega), getD_drop]
      congr 1
      omega
    · rw [if_neg c2, if_neg (by omega)]
      congr 2
      omega
  · rename_i c1
    rw [rowAt_tail (p := (n + (i : Nat)).toNat) (by omega)]
    unfold rowAt
    rw [if_neg (by simp)]
    simp only [List.length_nil, Nat.sub_zero, turnedL_length]
    rw [turnedL_get hc _ (Nat.mod_lt _ h0)]
    have e : n - h.length + (i % c.length : Nat) = (((n + (i : Nat)).toNat : Int) - h.length) + c.length * (-((i / c.length : Nat) : Int)) := by
      have e1 := Nat.mod_add_div i c.length
      have e2 : ((i % c.length : Nat) : Int) = (i : Int) - (c.length * (i / c.length) : Nat) := by omega
      rw [e2, Int.natCast_mul, Int.mul_neg]
      omega
    rw [e, cyc_add]
theorem LS.row (J : LS M0 M s l ns) {a : Addr} {h c : List Int} (r : RowAt M0 A a h c) (n : a ≠ s) : RowAt M A a h c := J.X a _ n r
theorem row_eq {M : Mp} {a : Addr} {h c : List Int} (r : RowAt M A a h c) : M a = some (.ins A.Row [("head", T h), ("cycle", T c)]) := r
theorem big_log : (10 ^ 60 : Int).natAbs.log2 < 9000 := by decide +kernel
theorem same_use {n : Nat} {d d' : D} (e : d = d') (h : okS n d) (k : Q (.bl true) M) : sp_law_same (n + 1) [d, d'] M Q E := ⟨d, by rw [e], h, k⟩
theorem okS_int {n : Nat} {i : Int} : okS n (.int i) := by cases n <;> simp [okS, ok]
theorem cp60 : CPow 10 60 := by unfold CPow; decide
theorem cp58 : CPow 10 58 := by unfold CPow; decide
theorem r_law_entries (X : Txt K mg A) : ∀ ds M Q E, sp_law_entries A ds M Q E → t_law_entries K A (ends Q E) (dstart N_law_entries ds) M := by
  rintro ds M Q E ⟨s, l, ns, a, h, c, rfl, hP, na, hM, hg, hs, k⟩
  have J0 : LS M M s l ns := ⟨hP, .refl⟩
  obtain ⟨s1, s2⟩ := hs
  have hc := hg.1
  unfold t_law_entries N_law_entries
  walk_at "dl"
  refine ⟨by omega, by omega, ?_⟩
  refine dLoop_inv (fun i τ M' => LS M M' s l ns ∧ ∃ o4 o5 o6 o7 o8, τ = [some (.ref s), some (.ref a), some (T h), some (T c), o4, o5, o6, o7, o8, none, none]) (fun _ _ _ _ _ => trivial) ?_ ?_ ⟨J0, _, _, _, _, _, rfl⟩
  · rintro i d τ M1 nxt hd ⟨J1, o4, o5, o6, o7, o8, rfl⟩ hnx
    obtain ⟨hi, rfl⟩ := rng_at hd
    walk_at "dl"
    refine ⟨cp60, by rw [sizeLine_eq]; omega, ?_⟩
    refine J1.choose [4, 1000, 10 ^ 60] rfl (by decide) (by decide) (fun v M2 hv J2 e2 => ?_) rfl
    have hv' : 0 < v ∧ v.natAbs.log2 < 9000 := by
      simp only [List.mem_cons, List.not_mem_nil, or_false] at hv
      rcases hv with rfl | rfl | rfl
      · exact ⟨by omega, log_small (by omega)⟩
      · exact ⟨by omega, log_small (by omega)⟩
      · exact ⟨by decide, big_log⟩
    refine J2.pick hv'.1 hv'.2 fun r M3 r0 r1 J3 e3 => ?_
    simp only [row_eq (J3.row hM na), true_and]
    refine ⟨a, h, c, r, rfl, hc, J3.row hM na, fun _ => ?_, fun h => by omega⟩
    refine ⟨h, c, r, rfl, hc, r0, same_use rfl okS_int ?_⟩
    simp only [Bool.not_true, Bool.false_eq_true, if_false]
    refine J3.pick (by omega) (by decide) fun n1 M4 a0 a1 J4 e4 => ?_
    refine J4.pick (by omega) (by decide) fun n2 M5 b0 b1 J5 e5 => ?_
    walk_at "dl"
    refine J5.pick (by omega) (by decide) fun n3 M6 c0 c1 J6 e6 => ?_
    refine ⟨cp60, J6.pick (by decide) big_log fun n4 M7 d0 d1 J7 e7 => ?_⟩
    refine ⟨by rw [sizeLine_eq]; omega, fun p hp => ?_⟩
    have L := LL.new (xs := [n1, (h.length : Int) + n2, n3, n4]) J7 hp
    have J8 : LS M (put M7 p (.lst ([n1, (h.length : Int) + n2, n3, n4].map D.int))) s l ns := J7.new hp
    refine J8.pick (by omega) (by decide) fun w M8 w0 w1 J9 e9 => ?_
    have L9 := L.ext e9
    rw [ixG_ref L9.seq w0 w1]
    generalize hv2 : [n1, (h.length : Int) + n2, n3, n4].getD w.toNat 0 = v2
    have v20 : 0 ≤ v2 := by
      have : v2 ∈ [n1, (h.length : Int) + n2, n3, n4] := by
        rw [← hv2, List.getD_eq_getElem?_getD, List.getElem?_eq_getElem (by simp; omega)]
        exact List.getElem_mem _
      simp only [List.mem_cons, List.not_mem_nil, or_false] at this
      omega
    walk_at "dl"
    simp only [row_eq (J9.row hM na), true_and]
    refine ⟨rfl, a, h, c, v2, rfl, hg, ⟨s1, s2⟩, J9.row hM na, fun _ q hq => ?_, fun h => by omega⟩
    have J10 := J9.new hq (o := oRow A (pl (bh h c v2).1 (bh h c v2).2).1 (pl (bh h c v2).1 (bh h c v2).2).2)
    walk_at "dl"
    refine ⟨h, c, v2, rfl, hc, ⟨s1, s2⟩, v20, ?_⟩
    refine ⟨q, _, _, rfl, sized_pl (good_bh hg).1 (sized_bh ⟨s1, s2⟩), put_same, ?_⟩
    simp only [Bool.not_true, Bool.false_eq_true, if_false, oRow, put_same, true_and]
    refine ⟨q, _, _, (i : Int), rfl, (good_pl (good_bh hg)).1, put_same, fun _ => ?_, fun h => by omega⟩
    refine ⟨h, c, v2 + (i : Nat), rfl, hc, by omega, same_use ?_ okS_int ?_⟩
    · rw [rowAt_pl (good_bh hg).1, Int.toNat_natCast, rowAt_bh hc v20]
    · simp only [Bool.not_true, Bool.false_eq_true, if_false]
      exact hnx _ _ ⟨J10, _, _, _, _, _, rfl⟩
  · rintro τ M1 ⟨J1, o4, o5, o6, o7, o8, rfl⟩
    walk_at "dl"
    refine J1.pick (by omega) (by decide) fun n1 M4 a0 a1 J4 e4 => ?_
    refine J4.pick (by omega) (by decide) fun n2 M5 b0 b1 J5 e5 => ?_
    walk_at "dl"
    refine J5.pick (by omega) (by decide) fun n3 M6 c0 c1 J6 e6 => ?_
    refine ⟨by rw [sizeLine_eq]; omega, ?_⟩
    refine J6.choose [n1, (h.length : Int) + n2, n3] rfl (by simp) (by simp) (fun v M7 hv J7 e7 => ?_) rfl
    have hv' : 0 ≤ v ∧ v ≤ 2000 := by
      simp only [List.mem_cons, List.not_mem_nil, or_false] at hv
      omega
    walk_at "dl"
    simp only [row_eq (J7.row hM na), true_and]
    refine ⟨rfl, a, h, c, v, rfl, hc, J7.row hM na, by omega, fun _ => ?_, fun h => by omega⟩
    refine ⟨by omega, by omega, fun p hp => ?_⟩
    refine dCL_inv (fun j M' => M' = put M7 p (.lst (((List.range j).map (rowAt h c)).map D.int))) (fun _ _ _ _ => trivial) ?_ ?_ rfl
    · rintro j d M' nxt hd rfl hnx
      obtain ⟨hj, rfl⟩ := rng_at hd
      simp only [wipeD]
      walk_at "dl"
      simp only [if_true]
      refine ⟨h, c, (j : Int), rfl, hc, by omega, ?_⟩
      simp only [put_same]
      refine ⟨by rw [List.length_map, List.length_map, List.length_range, sizeLine_eq]; omega, hnx _ ?_⟩
      rw [put_put, List.range_succ, List.map_append, List.map_append]
      rfl
    · rintro M' rfl
      rw [len_rng]
      simp only [tupG, seqOf, put_same]
      refine same_use rfl (okS_T (by rw [List.length_map, List.length_range]; omega)) ?_
      exact dropQ_of (k _ J7.P J7.X) (sub_put hp)
theorem okS_ref : okS 3 refused := by
  unfold refused
  rw [okS]
  refine ⟨2, rfl, by simp, fun x hx => ?_⟩
  simp only [List.mem_cons, List.not_mem_nil, or_false] at hx
  rcases hx with rfl | rfl | rfl <;> simp [okS, ok] <;> decide
theorem okS_told {d : D} (h : okS 2 d) : okS 3 (told d) := by
  unfold told
  rw [okS]
  refine ⟨2, rfl, by simp, fun x hx => ?_⟩
  simp only [List.mem_cons, List.not_mem_nil, or_false] at hx
  rcases hx with rfl | rfl
  · simp [okS, ok]; decide
  · exact h
theorem neg_bad {h c : List Int} {x : Int} (hx : x ∈ h ++ c) (n : x < 0) : ¬ good h c := fun g => by
  rcases List.mem_append.mp hx with hx | hx
  · have := g.2.1 x hx; omega
  · have := g.2.2 x hx; omega
theorem bh_zero {h c : List Int} : bh h c 0 = (h, c) := by
  unfold bh
  rw [if_pos (by omega)]
  rfl
theorem r_law_refusals (X : Txt K mg A) : ∀ ds M Q E, sp_law_refusals A ds M Q E → t_law_refusals K A (ends Q E) (dstart N_law_refusals ds) M := by
  rintro ds M Q E ⟨s, l, ns, a, h, c, rfl, hP, na, hM, hg, hs, k⟩
  have J0 : LS M M s l ns := ⟨hP, .refl⟩
  obtain ⟨s1, s2⟩ := hs
  have hc := hg.1
  have h0 : 0 < c.length := List.length_pos_iff.mpr hc
  unfold t_law_refusals N_law_refusals
  walk_at "dl"
  refine ⟨by rw [sizeLine_eq]; omega, cp58, by rw [sizeLine_eq]; omega, ?_⟩
  refine J0.choose [2, 10 ^ 58] rfl (by decide) (by decide) (fun v M1 hv J1 e1 => ?_) rfl
  have hv' : 0 < v ∧ v.natAbs.log2 < 9000 := by
    simp only [List.mem_cons, List.not_mem_nil, or_false] at hv
    rcases hv with rfl | rfl
    · exact ⟨by omega, log_small (by omega)⟩
    · exact ⟨by decide, by decide +kernel⟩
  refine J1.pick hv'.1 hv'.2 fun r M2 r0 r1 J2 e2 => ?_
  walk_at "dl"
  have hb : (-1 : Int) - r < 0 := by omega
  generalize (-1 : Int) - r = below at *
  refine ⟨by omega, by omega, ?_⟩
  refine dLoop_inv (fun i τ M' => M' = M2 ∧ ∃ o6, τ = [some (.ref s), some (.ref a), some (T h), some (T c), some refused, some (.int below), o6, none, none, none, none, none]) (fun _ _ _ _ _ => trivial) ?_ ?_ ⟨rfl, _, rfl⟩
  · rintro i d τ M3 nxt hd ⟨rfl, o6, rfl⟩ hnx
    obtain ⟨hi, rfl⟩ := rng_at hd
    walk_at "dl"
    refine ⟨(i : Int), a, below, h, c, h, c, rfl, J2.row hM na, hg, ⟨s1, s2⟩, ⟨s1, s2⟩, by omega, .inr (.inr (.inr (.inl ⟨by omega, hb, ?_⟩)))⟩
    refine same_use rfl okS_ref ?_
    simp only [Bool.not_true, Bool.false_eq_true, if_false]
    exact hnx _ _ ⟨rfl, _, rfl⟩
  rintro τ M3 ⟨rfl, o6, rfl⟩
  walk_at "dl"
  refine J2.pick (by omega) (log_small (by omega)) fun sp M4 p0 p1 J4 e4 => ?_
  walk_at "dl"
  refine ⟨by rw [sizeLine_eq]; omega, fun p hp => ?_⟩
  have hlen : ∀ v : Int, ((h ++ c).set sp.toNat v).length = h.length + c.length := fun v => by rw [List.length_set, List.length_append]
  have eset : ∀ (zs : List Int) (v : Int), (zs.map D.int).set sp.toNat (.int v) = (zs.set sp.toNat v).map D.int := fun zs v => by rw [List.map_set]
  simp only [put_same, List.length_map]
  rw [ixN_in p0 (by rw [List.length_append]; omega)]
  simp only [eset, put_put]
  have J5 : LS M (put M4 p (.lst (((h ++ c).set sp.toNat below).map D.int))) s l ns := J4.new hp
  have L5 : LL M (put M4 p (.lst (((h ++ c).set sp.toNat below).map D.int))) s l p ((h ++ c).set sp.toNat below) := LL.new J4 hp
  rw [slG_rpre L5.seq (by omega)]
  intro q hq
  have L6 := LL.new (xs := ((h ++ c).set sp.toNat below).take (h.length : Int).toNat) J5 hq
  have J6 := J5.new hq (o := .lst ((((h ++ c).set sp.toNat below).take (h.length : Int).toNat).map D.int))
  rw [tupG_ref L6.seq, slG_rpost (L5.lay hq).seq (by omega)]
  intro q2 hq2
  have L7 := LL.new (xs := ((h ++ c).set sp.toNat below).drop (h.length : Int).toNat) J6 hq2
  have J7 := J6.new hq2 (o := .lst ((((h ++ c).set sp.toNat below).drop (h.length : Int).toNat).map D.int))
  have L5' := (L5.lay hq (o := .lst ((((h ++ c).set sp.toNat below).take (h.length : Int).toNat).map D.int))).lay hq2 (o := .lst ((((h ++ c).set sp.toNat below).drop (h.length : Int).toNat).map D.int))
  rw [tupG_ref L7.seq]
  generalize put (put (put M4 p _) q _) q2 _ = M7 at J7 L5' ⊢
  have hmem : below ∈ (h ++ c).set sp.toNat below := by
    have hlt : sp.toNat < ((h ++ c).set sp.toNat below).length := by rw [hlen]; omega
    have := List.getElem_mem hlt
    rwa [List.getElem_set_self] at this
  have hf1 : (((h ++ c).set sp.toNat below).take (h.length : Int).toNat).length = h.length := by rw [List.length_take, hlen]; omega
  have hf2 : (((h ++ c).set sp.toNat below).drop (h.length : Int).toNat).length = c.length := by rw [List.length_drop, hlen]; omega
  have hbad : ¬ good (((h ++ c).set sp.toNat below).take (h.length : Int).toNat) (((h ++ c).set sp.toNat below).drop (h.length : Int).toNat) := neg_bad (by rw [List.take_append_drop]; exact hmem) hb
  generalize ((h ++ c).set sp.toNat below).take (h.length : Int).toNat = f1 at *
  generalize ((h ++ c).set sp.toNat below).drop (h.length : Int).toNat = f2 at *
  refine ⟨by rw [sizeLine_eq]; omega, by rw [sizeLine_eq]; omega, by rw [sizeLine_eq]; omega, by rw [sizeLine_eq]; omega, by rw [sizeLine_eq]; omega, by rw [sizeLine_eq]; omega, by rw [sizeLine_eq]; omega, by rw [sizeLine_eq]; omega, by rw [sizeLine_eq]; omega, by rw [sizeLine_eq]; omega, by rw [sizeLine_eq]; omega, by rw [sizeLine_eq]; omega, by rw [sizeLine_eq]; omega, fun p1 hp1 => ?_⟩
  have L8 := L5'.lay hp1 (o := .lst [.tup [T f1, T f2], .tup [T h, T []], .tup [T f1, T []], .tup [T [], T []], .tup [T [below], T c], .tup [T h, T [below]]])
  have J8 := J7.new hp1 (o := .lst [.tup [T f1, T f2], .tup [T h, T []], .tup [T f1, T []], .tup [T [], T []], .tup [T [below], T c], .tup [T h, T [below]]])
  have hat : seqOf (put M7 p1 (.lst [.tup [T f1, T f2], .tup [T h, T []], .tup [T f1, T []], .tup [T [], T []], .tup [T [below], T c], .tup [T h, T [below]]])) p1 = some [.tup [T f1, T f2], .tup [T h, T []], .tup [T f1, T []], .tup [T [], T []], .tup [T [below], T c], .tup [T h, T [below]]] := by simp only [seqOf, put_same]
  simp only [itemsOf, hat, keepOf]
  generalize put M7 p1 _ = M8 at L8 J8 hat ⊢
  refine dLoop_inv (fun i τ M' => M' = M8 ∧ ∃ o, τ = [some (.ref s), some (.ref a), some (T h), some (T c), some refused, some (.int below), o6, some (.int sp), some (.ref p), some (T f1), some (T f2), o]) (fun _ _ _ _ ⟨e, _⟩ => by rw [e]; exact hat) ?_ ?_ ⟨rfl, _, rfl⟩
  · rintro i d τ M9 nxt hd ⟨rfl, o, rfl⟩ hnx
    have hd' : ∃ x y, d = .tup [T x, T y] ∧ ¬ good x y ∧ sized x y := by
      have hm := List.mem_of_getElem? hd
      simp only [List.mem_cons, List.not_mem_nil, or_false] at hm
      rcases hm with rfl | rfl | rfl | rfl | rfl | rfl
      · exact ⟨_, _, rfl, hbad, by omega, by omega⟩
      · exact ⟨_, _, rfl, fun g => g.1 rfl, by omega, by simp⟩
      · exact ⟨_, _, rfl, fun g => g.1 rfl, by omega, by simp⟩
      · exact ⟨_, _, rfl, fun g => g.1 rfl, by simp, by simp⟩
      · exact ⟨_, _, rfl, neg_bad (x := below) (by simp) hb, by simp, by omega⟩
      · exact ⟨_, _, rfl, neg_bad (x := below) (by simp) hb, by omega, by simp⟩
    obtain ⟨x, y, rfl, ng, sz⟩ := hd'
    walk_at "dl"
    simp only [ix2a, ix2b]
    refine ⟨3, a, 0, h, c, x, y, rfl, J8.row hM na, hg, ⟨s1, s2⟩, sz, by omega, .inr (.inr (.inr (.inr ⟨rfl, ng, ?_⟩)))⟩
    refine same_use rfl okS_ref ?_
    simp only [Bool.not_true, Bool.false_eq_true, if_false]
    exact hnx _ _ ⟨rfl, _, rfl⟩
  rintro τ M9 ⟨rfl, o, rfl⟩
  walk_at "dl"
  simp only [L8.a, List.length_map]
  rw [ixN_in p0 (by rw [hlen]; omega)]
  simp only [eset, List.set_set]
  clear hat L5 L6 L7 L5' hbad hf1 hf2
  have J10 := J8.put (o := .lst (((h ++ c).set sp.toNat 0).map D.int)) L8.z L8.ns L8.nl
  have L10 := L8.set (ys := (h ++ c).set sp.toNat 0)
  rw [slG_rpre L10.seq (by omega)]
  intro q3 hq3
  have L11 := LL.new (xs := ((h ++ c).set sp.toNat 0).take (h.length : Int).toNat) J10 hq3
  have J11 := J10.new hq3 (o := .lst ((((h ++ c).set sp.toNat 0).take (h.length : Int).toNat).map D.int))
  rw [tupG_ref L11.seq, slG_rpost (L10.lay hq3).seq (by omega)]
  intro q4 hq4
  have L12 := LL.new (xs := ((h ++ c).set sp.toNat 0).drop (h.length : Int).toNat) J11 hq4
  have J12 := J11.new hq4 (o := .lst ((((h ++ c).set sp.toNat 0).drop (h.length : Int).toNat).map D.int))
  rw [tupG_ref L12.seq]
  have hf1 : (((h ++ c).set sp.toNat 0).take (h.length : Int).toNat).length = h.length := by rw [List.length_take, hlen]; omega
  have hf2 : (((h ++ c).set sp.toNat 0).drop (h.length : Int).toNat).length = c.length := by rw [List.length_drop, hlen]; omega
  have hall : ∀ x, x ∈ (h ++ c).set sp.toNat 0 → 0 ≤ x := fun x hx => by
    rcases List.mem_or_eq_of_mem_set hx with hx | rfl
    · exact (List.mem_append.mp hx).elim (hg.2.1 x) (hg.2.2 x)
    · omega
  have hgd : good (((h ++ c).set sp.toNat 0).take (h.length : Int).toNat) (((h ++ c).set sp.toNat 0).drop (h.length : Int).toNat) :=
    ⟨fun e => by rw [e] at hf2; simp at hf2; omega, fun x hx => hall x (List.mem_of_mem_take hx), fun x hx => hall x (List.mem_of_mem_drop hx)⟩
  generalize put (put (put _ p _) q3 _) q4 _ = M12 at J12 ⊢
  generalize ((h ++ c).set sp.toNat 0).take (h.length : Int).toNat = g1 at *
  generalize ((h ++ c).set sp.toNat 0).drop (h.length : Int).toNat = g2 at *
  have sg : sized g1 g2 := ⟨by omega, by omega⟩
  intro x hx
  refine ⟨x, g1, g2, rfl, sg, put_same, fun _ => ⟨rfl, ?_⟩, fun ng => absurd hgd ng⟩
  rw [put_put]
  have J13 := J12.new hx (o := oRow A g1 g2)
  simp only [oRow, put_same, true_and]
  refine ⟨rfl, x, g1, g2, rfl, hgd, sg, put_same, fun y hy => ?_⟩
  have J14 := J13.new hy (o := oRow A (pl g1 g2).1 (pl g1 g2).2)
  refine ⟨g1, g2, rfl, hgd.1, sg, ?_⟩
  refine ⟨y, _, _, rfl, sized_pl hgd.1 sg, put_same, ?_⟩
  simp only [Bool.not_true, Bool.false_eq_true, if_false]
  refine ⟨0, a, 0, h, c, h, c, rfl, J14.row hM na, hg, ⟨s1, s2⟩, ⟨s1, s2⟩, by omega, .inl ⟨rfl, by omega, ?_⟩⟩
  refine ⟨h, c, 0, rfl, hc, by omega, by rw [sizeLine_eq]; omega, same_use rfl (okS_told okS_int) ?_⟩
  simp only [Bool.not_true, Bool.false_eq_true, if_false]
  refine ⟨1, a, 0, h, c, h, c, rfl, J14.row hM na, hg, ⟨s1, s2⟩, ⟨s1, s2⟩, by omega, .inr (.inl ⟨rfl, by omega, ?_⟩)⟩
  refine ⟨by rw [sizeLine_eq]; omega, by rw [sizeLine_eq]; omega, same_use rfl (okS_told (okS_T (by simp))) ?_⟩
  simp only [Bool.not_true, Bool.false_eq_true, if_false]
  refine ⟨2, a, 0, h, c, h, c, rfl, J14.row hM na, hg, ⟨s1, s2⟩, ⟨s1, s2⟩, by omega, .inr (.inr (.inl ⟨rfl, by omega, ?_⟩))⟩
  refine ⟨h, c, rfl, hc, ⟨s1, s2⟩, ?_⟩
  simp only [ix2a]
  rw [bh_zero]
  exact ⟨by rw [sizeLine_eq]; omega, same_use rfl (okS_told (okS_T (show (pl h c).1.length ≤ 100000 by have := (sized_pl (h := h) hc ⟨s1, s2⟩).1; omega))) (dropQ_of (k _ J14.P J14.X) .refl)⟩
end K55

set_option maxHeartbeats 4000000
namespace K55
open PySem L2 DL
local macro_rules | `(tactic| walk_at "dl") => `(tactic| simp only [dSeq, dIfS, dB, dTru, truD, dOp, dVar, dC, dAsg, dAug, dCB, dCons, dNil, dRet, dRetN, dName, dGSub, dNext, ends, exOf, dstart, slot, oI0, oI, dAnd, dOr, dNot, dAndV, dOrV, dNotV, dNeg, dSl, dNoP, dPart, dFld, dFldS, dRaise, dLst, dTup, dFor, dIter, dRng1, dRng2, dCall, dMake, dMeth, dIxO, dLc, dYes, dGTup, dGCons, dGNil,
  lenG_T, addD_T, addD_int, mulD_int, lstG_T, mulD_T, eqD_T, eqD_int, neD_int, itemsOf_T, keepOf_T, tup_T, tup_T1, tupG_T, intG, List.nil_append, bne_iff_ne,
  List.map, List.length_cons, List.length_nil, List.cons_append, List.append_nil, List.replicate, List.set, List.getElem?_cons_zero, List.getElem?_cons_succ, Option.join_some, Option.bind_some, decide_eq_true_eq])
variable {K : PySem.W.Frag} {mg : Str → Option Value} {A : Adr} {M0 M M' : Mp} {s l p q : Addr} {ns xs ys : List Int} {Q : DK} {E : EK}
theorem RowAt.sub {a : Addr} {h c : List Int} (r : RowAt M A a h c) (e : Sub M M') : RowAt M' A a h c := e a _ r
theorem PSt.sub (h : PSt M s l ns) (e : Sub M M') : PSt M' s l ns := by
  obtain ⟨n, hl, a, b, c, hs, r⟩ := h
  exact ⟨n, e _ _ hl, a, b, c, e _ _ hs, r⟩
theorem RowAt.ext {a : Addr} {h c : List Int} (r : RowAt M A a h c) (n : a ≠ s) (e : Ext s M M') : RowAt M' A a h c := e a _ n r
theorem RowAt.ne {a : Addr} {h c : List Int} (r : RowAt M A a h c) (P : PSt M s l ns) : a ≠ s := by
  rintro rfl
  obtain ⟨_, _, _, _, _, hs, _⟩ := P
  unfold RowAt at r
  rw [r] at hs
  cases hs
theorem within.good {h c : List Int} {top : Int} (w : within top h c) (hc : c ≠ []) : good h c := ⟨hc, fun x hx => (w.2.1 x hx).1, fun x hx => (w.2.2 x hx).1⟩
/-- a row, made -/
theorem make_use {R : Addr → Mp → Prop} {h c : List Int} (g : good h c) (z : sized h c) (k : ∀ x M', RowAt M' A x h c → Sub M M' → R x M') :
    ∀ x, M x = none → sp_Row_init A [.ref x, T h, T c] (put M x (.ins A.Row [])) (fun d M2 => d = .non ∧ R x M2) E := fun x hx =>
  ⟨x, h, c, rfl, z, put_same, fun _ => ⟨rfl, by rw [put_put]; exact k x _ put_same (sub_put hx)⟩, fun n => absurd g n⟩
theorem isrow_use {a : Addr} {h c h' c' : List Int} (r : RowAt M A a h c) (e : (h', c') = (h, c)) (z : sized h c) (k : Q (.bl true) M) : sp_law_is_row A [.ref a, .tup [T h', T c']] M Q E := by
  cases e
  exact ⟨a, h, c, rfl, z, r, k⟩
theorem least_use {a : Addr} {h c : List Int} (r : RowAt M A a h c) (g : good h c) (z : sized h c) (k : ∀ x M', RowAt M' A x (pl h c).1 (pl h c).2 → Sub M M' → Q (.ref x) M') : sp_Row_least A [.ref a] M Q E :=
  ⟨a, h, c, rfl, g, z, r, fun p hp => k p _ put_same (sub_put hp)⟩
theorem isrow_least {a : Addr} {h c h' c' : List Int} (r : RowAt M A a h c) (g : good h c) (z : sized h c) (e : pl h c = (h', c')) (k : ∀ M', Sub M M' → Q (.bl true) M') :
    sp_Row_least A [.ref a] M (fun d M1 => sp_law_is_row A [d, .tup [T h', T c']] M1 Q E) E :=
  least_use r g z fun x M' r' sb => isrow_use r' (by rw [← e]) (sized_pl g.1 z) (k M' sb)
structure Rows (A : Adr) (M : Mp) (s l : Addr) (ns : List Int) (a b d : Addr) (h c h2 c2 h3 c3 : List Int) : Prop where
  P : PSt M s l ns
  ra : RowAt M A a h c
  rb : RowAt M A b h2 c2
  rd : RowAt M A d h3 c3
theorem Rows.sub {a b d : Addr} {h c h2 c2 h3 c3 : List Int} (R : Rows A M s l ns a b d h c h2 c2 h3 c3) (e : Sub M M') : Rows A M' s l ns a b d h c h2 c2 h3 c3 := ⟨R.P.sub e, R.ra.sub e, R.rb.sub e, R.rd.sub e⟩
theorem Rows.ext {a b d : Addr} {h c h2 c2 h3 c3 : List Int} (R : Rows A M s l ns a b d h c h2 c2 h3 c3) (P : PSt M' s l ns) (e : Ext s M M') : Rows A M' s l ns a b d h c h2 c2 h3 c3 := ⟨P, R.ra.ext (R.ra.ne R.P) e, R.rb.ext (R.rb.ne R.P) e, R.rd.ext (R.rd.ne R.P) e⟩
theorem isG_bl {n b b' : Bool} : isG n (.bl b) (.bl b') M Q = Q (.bl (n != decide (b = b'))) M := by
  cases b <;> cases b' <;> rfl
theorem seq_step {t u : DS} {Dn : DN} {τ : Sl} {M : Mp} (h : ∀ U : Sl → Mp → Prop, U = u Dn → t { Dn with nx := U } τ M) : dSeq t u Dn τ M := h _ rfl
theorem lk_least {h c : List Int} : ([("head", T h), ("cycle", T c)] : List (Str × D)).lookup ("least" : Str) = none := rfl
theorem r_law (X : Txt K mg A) : ∀ ds M Q E, sp_law K ds M Q E → t_law K A (ends Q E) (dstart N_law ds) M := by
  rintro ds M Q E ⟨z, ns, rfl, hz, hl, _, k⟩
  unfold t_law N_law
  simp only [dstart, List.map, List.length_cons, List.length_nil, List.replicate, List.cons_append, List.nil_append]
  refine seq_step fun U hU => ?_
  walk_at "dl"
  refine ⟨z, ns, rfl, hz, hl, fun s l M1 P1 sb1 => ?_⟩
  subst hU
  refine seq_step fun U hU => ?_
  walk_at "dl"
  refine ⟨s, l, ns, rfl, P1, fun p M2 h c top np P2 e2 hp hc lc lh w => ?_⟩
  simp only [seqOf_lst hp, List.length_cons, List.length_nil, true_and]
  subst hU
  refine seq_step fun U hU => ?_
  walk_at "dl"
  refine ⟨s, l, ns, h, c, rfl, P2, hc, lc, lh, fun p3 M3 h2 c2 np3 P3 e3 hp3 hc2 lc2 lh2 mh mc same => ?_⟩
  simp only [seqOf_lst hp3, List.length_cons, List.length_nil, true_and]
  subst hU
  refine seq_step fun U hU => ?_
  walk_at "dl"
  have w2 : within top h2 c2 := ⟨w.1, fun x hx => (mh x hx).elim (w.2.1 x) (w.2.2 x), fun x hx => w.2.2 x (mc x hx)⟩
  have z1 : sized h c := ⟨by omega, by omega⟩
  have z2 : sized h2 c2 := ⟨by omega, by omega⟩
  refine ⟨s, l, ns, h2, c2, top, rfl, P3, hc2, z2, w2, fun p4 M4 h3 c3 at_ np4 P4 e4 hp4 l3 lc3 w3 hat hne => ?_⟩
  simp only [seqOf_lst hp4, List.length_cons, List.length_nil, true_and]
  have hc3 : c3 ≠ [] := fun e => by
    subst e
    have := List.length_pos_iff.mpr hc2
    simp at lc3
    omega
  have z3 : sized h3 c3 := ⟨by have := z2.1; omega, by have := z2.2; omega⟩
  have g1 := w.good hc
  have g2 := w2.good hc2
  have g3 := w3.good hc3
  have q12 : pl h2 c2 = pl h c := pl_eq hc2 hc same
  have q23 : pl h3 c3 ≠ pl h2 c2 := pl_ne hc3 hc2 hne
  subst hU
  refine seq_step fun U hU => ?_
  walk_at "dl"
  refine make_use g1 z1 fun a M5 ra sb5 => ?_
  subst hU
  refine seq_step fun U hU => ?_
  walk_at "dl"
  refine make_use g2 z2 fun b M6 rb sb6 => ?_
  subst hU
  refine seq_step fun U hU => ?_
  walk_at "dl"
  refine make_use g3 z3 fun d M7 rd sb7 => ?_
  have R7 : Rows A M7 s l ns a b d h c h2 c2 h3 c3 := ⟨((P4.sub sb5).sub sb6).sub sb7, (ra.sub sb6).sub sb7, rb.sub sb7, rd⟩
  subst hU
  refine seq_step fun U hU => ?_
  walk_at "dl"
  refine ⟨h, c, rfl, hc, z1, ?_⟩
  subst hU
  have t2 : 0 + 1 + 1 ≤ sizeLine := by rw [sizeLine_eq]; omega
  have t1 : 0 + 1 ≤ sizeLine := by rw [sizeLine_eq]; omega
  have fin : ∀ M, dropQ Q (.bl true) M := fun M => dropQ_of (k M) .refl
  clear hp hp3 hp4 P1 P2 P3 P4 e2 e3 e4 sb5 sb6 sb7 ra rb rd
  -- row and other as they were made
  refine seq_split (fun τ M => Rows A M s l ns a b d h c h2 c2 h3 c3 ∧ τ = [some (.ref z), some (.ref s), some (T h), some (T c), some (.int top), some (T h2), some (T c2), some (T h3), some (T c3), some (.int (at_ : Nat)), some (.ref a), some (.ref b), some (.ref d), some (.tup [T (pl h c).1, T (pl h c).2]), none]) ?_ fun nx hnx => ?_
  rotate_left
  · walk_at "dl"
    refine ⟨t2, isrow_use R7.ra rfl z1 ?_⟩
    simp only [Bool.not_true, Bool.false_eq_true, if_false]
    refine ⟨t2, isrow_use R7.rb rfl z2 ?_⟩
    simp only [Bool.not_true, Bool.false_eq_true, if_false]
    exact hnx _ _ ⟨R7, rfl⟩
  clear R7
  rintro τ M8 ⟨R8, rfl⟩
  -- the least forms of both
  refine seq_split (fun τ M => Rows A M s l ns a b d h c h2 c2 h3 c3 ∧ τ = [some (.ref z), some (.ref s), some (T h), some (T c), some (.int top), some (T h2), some (T c2), some (T h3), some (T c3), some (.int (at_ : Nat)), some (.ref a), some (.ref b), some (.ref d), some (.tup [T (pl h c).1, T (pl h c).2]), none]) ?_ fun nx hnx => ?_
  rotate_left
  · walk_at "dl"
    simp only [row_eq R8.ra, true_and]
    refine ⟨rfl, isrow_least R8.ra g1 z1 rfl fun M9 sb => ?_⟩
    have R9 := R8.sub sb
    simp only [Bool.not_true, Bool.false_eq_true, if_false, row_eq R9.rb, true_and]
    refine ⟨rfl, isrow_least R9.rb g2 z2 q12 fun M10 sb => ?_⟩
    simp only [Bool.not_true, Bool.false_eq_true, if_false]
    exact hnx _ _ ⟨R9.sub sb, rfl⟩
  clear R8
  rintro τ M8 ⟨R8, rfl⟩
  -- that of the bent one
  refine seq_split (fun τ M => Rows A M s l ns a b d h c h2 c2 h3 c3 ∧ τ = [some (.ref z), some (.ref s), some (T h), some (T c), some (.int top), some (T h2), some (T c2), some (T h3), some (T c3), some (.int (at_ : Nat)), some (.ref a), some (.ref b), some (.ref d), some (.tup [T (pl h c).1, T (pl h c).2]), none]) ?_ fun nx hnx => ?_
  rotate_left
  · walk_at "dl"
    simp only [row_eq R8.rd, true_and]
    refine ⟨rfl, least_use R8.rd g3 z3 fun x M9 rx sb => ?_⟩
    refine ⟨h3, c3, rfl, hc3, z3, isrow_use rx rfl (sized_pl hc3 z3) ?_⟩
    simp only [Bool.not_true, Bool.false_eq_true, if_false]
    exact hnx _ _ ⟨R8.sub sb, rfl⟩
  clear R8
  rintro τ M8 ⟨R8, rfl⟩
  have q21 : pl h c = pl h2 c2 := q12.symm
  have q13 : ¬ pl h c = pl h3 c3 := fun e => q23 (by rw [← e, q12])
  have q32 : ¬ pl h3 c3 = pl h2 c2 := q23
  have q31 : ¬ pl h3 c3 = pl h c := fun e => q13 e.symm
  -- same
  refine seq_split (fun τ M => Rows A M s l ns a b d h c h2 c2 h3 c3 ∧ τ = [some (.ref z), some (.ref s), some (T h), some (T c), some (.int top), some (T h2), some (T c2), some (T h3), some (T c3), some (.int (at_ : Nat)), some (.ref a), some (.ref b), some (.ref d), some (.tup [T (pl h c).1, T (pl h c).2]), none]) ?_ fun nx hnx => ?_
  rotate_left
  · walk_at "dl"
    refine ⟨a, b, h, c, h2, c2, rfl, g1, z1, g2, z2, R8.ra, R8.rb, ?_⟩
    rw [decide_eq_true q21]
    dsimp only
    rw [isG_bl]
    simp only [decide_true, bne_self_eq_false, Bool.false_eq_true, if_false]
    refine ⟨b, a, h2, c2, h, c, rfl, g2, z2, g1, z1, R8.rb, R8.ra, ?_⟩
    rw [decide_eq_true q12]
    dsimp only
    rw [isG_bl]
    simp only [decide_true, bne_self_eq_false, Bool.false_eq_true, if_false]
    exact hnx _ _ ⟨R8, rfl⟩
  clear R8
  rintro τ M8 ⟨R8, rfl⟩
  -- not same
  refine seq_split (fun τ M => Rows A M s l ns a b d h c h2 c2 h3 c3 ∧ τ = [some (.ref z), some (.ref s), some (T h), some (T c), some (.int top), some (T h2), some (T c2), some (T h3), some (T c3), some (.int (at_ : Nat)), some (.ref a), some (.ref b), some (.ref d), some (.tup [T (pl h c).1, T (pl h c).2]), none]) ?_ fun nx hnx => ?_
  rotate_left
  · walk_at "dl"
    refine ⟨a, d, h, c, h3, c3, rfl, g1, z1, g3, z3, R8.ra, R8.rd, ?_⟩
    rw [decide_eq_false q13]
    dsimp only
    rw [isG_bl]
    simp only [decide_true, bne_self_eq_false, Bool.false_eq_true, if_false]
    refine ⟨d, b, h3, c3, h2, c2, rfl, g3, z3, g2, z2, R8.rd, R8.rb, ?_⟩
    rw [decide_eq_false q32]
    dsimp only
    rw [isG_bl]
    simp only [decide_true, bne_self_eq_false, Bool.false_eq_true, if_false]
    exact hnx _ _ ⟨R8, rfl⟩
  clear R8
  rintro τ M8 ⟨R8, rfl⟩
  -- the entry that was bent
  refine seq_split (fun τ M => Rows A M s l ns a b d h c h2 c2 h3 c3 ∧ τ = [some (.ref z), some (.ref s), some (T h), some (T c), some (.int top), some (T h2), some (T c2), some (T h3), some (T c3), some (.int (at_ : Nat)), some (.ref a), some (.ref b), some (.ref d), some (.tup [T (pl h c).1, T (pl h c).2]), none]) ?_ fun nx hnx => ?_
  rotate_left
  · walk_at "dl"
    simp only [row_eq R8.rd, true_and]
    refine ⟨d, h3, c3, (at_ : Nat), rfl, hc3, R8.rd, fun _ => ?_, fun h => by omega⟩
    refine ⟨by have := z3.1; have := z3.2; rw [sizeLine_eq]; omega, ?_⟩
    rw [ixG_T (by omega) (by rw [List.length_append]; omega)]
    refine same_use (by rw [rowAt_join (by rw [Int.toNat_natCast]; omega)]) okS_int ?_
    simp only [Bool.not_true, Bool.false_eq_true, if_false, row_eq R8.rb, true_and]
    refine ⟨b, h2, c2, (at_ : Nat), rfl, hc2, R8.rb, fun _ => ?_, fun h => by omega⟩
    refine ⟨by have := z2.1; have := z2.2; rw [sizeLine_eq]; omega, ?_⟩
    rw [ixG_T (by omega) (by rw [List.length_append]; omega)]
    refine same_use (by rw [rowAt_join (by rw [Int.toNat_natCast]; omega)]) okS_int ?_
    simp only [Bool.not_true, Bool.false_eq_true, if_false]
    exact hnx _ _ ⟨R8, rfl⟩
  clear R8
  rintro τ M8 ⟨R8, rfl⟩
  -- entries
  refine seq_split (fun τ M => Rows A M s l ns a b d h c h2 c2 h3 c3 ∧ τ = [some (.ref z), some (.ref s), some (T h), some (T c), some (.int top), some (T h2), some (T c2), some (T h3), some (T c3), some (.int (at_ : Nat)), some (.ref a), some (.ref b), some (.ref d), some (.tup [T (pl h c).1, T (pl h c).2]), none]) ?_ fun nx hnx => ?_
  rotate_left
  · walk_at "dl"
    refine ⟨s, l, ns, a, h, c, rfl, R8.P, R8.ra.ne R8.P, R8.ra, g1, z1, fun M9 P9 e9 => ?_⟩
    have R9 := R8.ext P9 e9
    simp only [Bool.not_true, Bool.false_eq_true, if_false]
    refine ⟨s, l, ns, b, h2, c2, rfl, R9.P, R9.rb.ne R9.P, R9.rb, g2, z2, fun M10 P10 e10 => ?_⟩
    simp only [Bool.not_true, Bool.false_eq_true, if_false]
    exact hnx _ _ ⟨R9.ext P10 e10, rfl⟩
  clear R8
  rintro τ M8 ⟨R8, rfl⟩
  -- refusals
  refine seq_split (fun τ M => Rows A M s l ns a b d h c h2 c2 h3 c3 ∧ τ = [some (.ref z), some (.ref s), some (T h), some (T c), some (.int top), some (T h2), some (T c2), some (T h3), some (T c3), some (.int (at_ : Nat)), some (.ref a), some (.ref b), some (.ref d), some (.tup [T (pl h c).1, T (pl h c).2]), none]) ?_ fun nx hnx => ?_
  rotate_left
  · walk_at "dl"
    refine ⟨s, l, ns, a, h, c, rfl, R8.P, R8.ra.ne R8.P, R8.ra, g1, z1, fun M9 P9 e9 => ?_⟩
    simp only [Bool.not_true, Bool.false_eq_true, if_false]
    exact hnx _ _ ⟨R8.ext P9 e9, rfl⟩
  clear R8
  rintro τ M8 ⟨R8, rfl⟩
  -- the plain row
  have gp : good h [0] := ⟨by simp, g1.2.1, fun x hx => by simp at hx; omega⟩
  have zp : sized h [0] := ⟨z1.1, by simp⟩
  refine seq_step fun U hU => ?_
  walk_at "dl"
  refine make_use gp zp fun e M9 re sb => ?_
  have R9 := R8.sub sb
  subst hU
  refine seq_split (fun τ M => Rows A M s l ns a b d h c h2 c2 h3 c3 ∧ τ = [some (.ref z), some (.ref s), some (T h), some (T c), some (.int top), some (T h2), some (T c2), some (T h3), some (T c3), some (.int (at_ : Nat)), some (.ref a), some (.ref b), some (.ref d), some (.tup [T (pl h c).1, T (pl h c).2]), some (.ref e)]) ?_ fun nx hnx => ?_
  rotate_left
  · walk_at "dl"
    refine ⟨t1, t2, isrow_use re rfl zp ?_⟩
    simp only [Bool.not_true, Bool.false_eq_true, if_false, row_eq re, true_and]
    refine ⟨rfl, least_use re gp zp fun x M10 rx sb => ?_⟩
    refine ⟨t1, h, [0], rfl, by simp, zp, isrow_use rx rfl (sized_pl gp.1 zp) ?_⟩
    simp only [Bool.not_true, Bool.false_eq_true, if_false]
    exact hnx _ _ ⟨R9.sub sb, rfl⟩
  clear R8 R9 re sb
  rintro τ M8 ⟨R8, rfl⟩
  -- nothing has changed
  refine seq_split (fun τ M => Rows A M s l ns a b d h c h2 c2 h3 c3 ∧ τ = [some (.ref z), some (.ref s), some (T h), some (T c), some (.int top), some (T h2), some (T c2), some (T h3), some (T c3), some (.int (at_ : Nat)), some (.ref a), some (.ref b), some (.ref d), some (.tup [T (pl h c).1, T (pl h c).2]), some (.ref e)]) ?_ fun nx hnx => ?_
  rotate_left
  · walk_at "dl"
    simp only [row_eq R8.ra, true_and]
    refine ⟨rfl, isrow_least R8.ra g1 z1 rfl fun M9 sb => ?_⟩
    have R9 := R8.sub sb
    simp only [Bool.not_true, Bool.false_eq_true, if_false]
    refine ⟨a, b, h, c, h2, c2, rfl, g1, z1, g2, z2, R9.ra, R9.rb, ?_⟩
    rw [decide_eq_true q21]
    dsimp only
    rw [isG_bl]
    simp only [decide_true, bne_self_eq_false, Bool.false_eq_true, if_false]
    refine ⟨d, a, h3, c3, h, c, rfl, g3, z3, g1, z1, R9.rd, R9.ra, ?_⟩
    rw [decide_eq_false q31]
    dsimp only
    rw [isG_bl]
    simp only [decide_true, bne_self_eq_false, Bool.false_eq_true, if_false]
    exact hnx _ _ ⟨R9, rfl⟩
  clear R8
  rintro τ M8 ⟨R8, rfl⟩
  walk_at "dl"
  refine ⟨t2, isrow_use R8.ra rfl z1 ?_⟩
  simp only [if_true]
  exact ⟨t2, isrow_use R8.rd rfl z3 (fin _)⟩
end K55

set_option maxHeartbeats 4000000
namespace K55
open PySem L2 DL
theorem len_shortest_cycle : ∀ ds M Q E, sp_shortest_cycle ds M Q E → ds.length = P_shortest_cycle.length := fun ds M Q E h => by
  (repeat (obtain ⟨_, h⟩ := h))
  all_goals (subst_vars; rfl)
theorem len_turned : ∀ ds M Q E, sp_turned ds M Q E → ds.length = P_turned.length := fun ds M Q E h => by
  (repeat (obtain ⟨_, h⟩ := h))
  all_goals (subst_vars; rfl)
theorem len_loose_entries : ∀ ds M Q E, sp_loose_entries ds M Q E → ds.length = P_loose_entries.length := fun ds M Q E h => by
  (repeat (obtain ⟨_, h⟩ := h))
  all_goals (subst_vars; rfl)
theorem len_Row_init {A : Adr} : ∀ ds M Q E, sp_Row_init A ds M Q E → ds.length = P_Row_init.length := fun ds M Q E h => by
  (repeat (obtain ⟨_, h⟩ := h))
  all_goals (subst_vars; rfl)
theorem len_Row_getitem {A : Adr} : ∀ ds M Q E, sp_Row_getitem A ds M Q E → ds.length = P_Row_getitem.length := fun ds M Q E h => by
  (repeat (obtain ⟨_, h⟩ := h))
  all_goals (subst_vars; rfl)
theorem len_Row_start {A : Adr} : ∀ ds M Q E, sp_Row_start A ds M Q E → ds.length = P_Row_start.length := fun ds M Q E h => by
  (repeat (obtain ⟨_, h⟩ := h))
  all_goals (subst_vars; rfl)
theorem len_Row_least {A : Adr} : ∀ ds M Q E, sp_Row_least A ds M Q E → ds.length = P_Row_least.length := fun ds M Q E h => by
  (repeat (obtain ⟨_, h⟩ := h))
  all_goals (subst_vars; rfl)
theorem len_Row_after {A : Adr} : ∀ ds M Q E, sp_Row_after A ds M Q E → ds.length = P_Row_after.length := fun ds M Q E h => by
  (repeat (obtain ⟨_, h⟩ := h))
  all_goals (subst_vars; rfl)
theorem len_same_rows {A : Adr} : ∀ ds M Q E, sp_same_rows A ds M Q E → ds.length = P_same_rows.length := fun ds M Q E h => by
  (repeat (obtain ⟨_, h⟩ := h))
  all_goals (subst_vars; rfl)
theorem len_law_pick : ∀ ds M Q E, sp_law_pick ds M Q E → ds.length = P_law_pick.length := fun ds M Q E h => by
  (repeat (obtain ⟨_, h⟩ := h))
  all_goals (subst_vars; rfl)
theorem len_law_same {n : Nat} : ∀ ds M Q E, sp_law_same (n + 1) ds M Q E → ds.length = P_law_same.length := fun ds M Q E h => by
  (repeat (obtain ⟨_, h⟩ := h))
  all_goals (subst_vars; rfl)
theorem len_law_at : ∀ ds M Q E, sp_law_at ds M Q E → ds.length = P_law_at.length := fun ds M Q E h => by
  (repeat (obtain ⟨_, h⟩ := h))
  all_goals (subst_vars; rfl)
theorem len_law_least : ∀ ds M Q E, sp_law_least ds M Q E → ds.length = P_law_least.length := fun ds M Q E h => by
  (repeat (obtain ⟨_, h⟩ := h))
  all_goals (subst_vars; rfl)
theorem len_law_behind : ∀ ds M Q E, sp_law_behind ds M Q E → ds.length = P_law_behind.length := fun ds M Q E h => by
  (repeat (obtain ⟨_, h⟩ := h))
  all_goals (subst_vars; rfl)
theorem len_law_is_row {A : Adr} : ∀ ds M Q E, sp_law_is_row A ds M Q E → ds.length = P_law_is_row.length := fun ds M Q E h => by
  (repeat (obtain ⟨_, h⟩ := h))
  all_goals (subst_vars; rfl)
theorem len_law_row : ∀ ds M Q E, sp_law_row ds M Q E → ds.length = P_law_row.length := fun ds M Q E h => by
  (repeat (obtain ⟨_, h⟩ := h))
  all_goals (subst_vars; rfl)
theorem len_law_other : ∀ ds M Q E, sp_law_other ds M Q E → ds.length = P_law_other.length := fun ds M Q E h => by
  (repeat (obtain ⟨_, h⟩ := h))
  all_goals (subst_vars; rfl)
theorem len_law_bent : ∀ ds M Q E, sp_law_bent ds M Q E → ds.length = P_law_bent.length := fun ds M Q E h => by
  (repeat (obtain ⟨_, h⟩ := h))
  all_goals (subst_vars; rfl)
theorem len_law_asked {A : Adr} : ∀ ds M Q E, sp_law_asked A ds M Q E → ds.length = P_law_asked.length := fun ds M Q E h => by
  (repeat (obtain ⟨_, h⟩ := h))
  all_goals (subst_vars; rfl)
theorem len_law_refusals {A : Adr} : ∀ ds M Q E, sp_law_refusals A ds M Q E → ds.length = P_law_refusals.length := fun ds M Q E h => by
  (repeat (obtain ⟨_, h⟩ := h))
  all_goals (subst_vars; rfl)
theorem len_law_entries {A : Adr} : ∀ ds M Q E, sp_law_entries A ds M Q E → ds.length = P_law_entries.length := fun ds M Q E h => by
  (repeat (obtain ⟨_, h⟩ := h))
  all_goals (subst_vars; rfl)
theorem len_law {K : PySem.W.Frag} : ∀ ds M Q E, sp_law K ds M Q E → ds.length = P_law.length := fun ds M Q E h => by
  (repeat (obtain ⟨_, h⟩ := h))
  all_goals (subst_vars; rfl)
theorem all_mk {l : PySem.W.OpenLaw} {w : World} {K : PySem.W.Frag} {h : Heap} {mg : Str → Option Value} {fa ProofsError InvalidTerm OutOfRange SizeMismatch TooLarge Row f1 f2 f3 f4 f5 f6 f7 f8 f9 f10 f11 f12 f13 f14 f15 f16 f17 f18 f19 f20 f21 f22 f23 : Addr} (X : K.In h) (G : h.Ns mainGlobals mg) (hfa : mg "law" = some (.ref fa))
    {od1 an1 od2 an2 od3 an3 od4 an4 od5 an5 od6 an6 od7 an7 od8 an8 od9 an9 od10 an10 od11 an11 od12 an12 od13 an13 od14 an14 od15 an15 od16 an16 od17 an17 od18 an18 od19 an19 od20 an20 od21 an21 od22 an22 od23 an23 : Option Addr} {sl1 sl2 sl3 sl4 sl5 sl6 sl7 sl8 sl9 sl10 sl11 sl12 sl13 sl14 sl15 sl16 sl17 sl18 sl19 sl20 sl21 sl22 sl23 : Array (Option Value)} {oc1 kV1 dc1 pm1 cd1 ct1 oc2 kV2 dc2 pm2 cd2 ct2 oc3 kV3 dc3 pm3 cd3 ct3 oc4 kV4 dc4 pm4 cd4 ct4 oc5 kV5 dc5 pm5 cd5 ct5 oc6 kV6 dc6 pm6 cd6 ct6 oc7 kV7 dc7 pm7 cd7 ct7 oc8 kV8 dc8 pm8 cd8 ct8 oc9 kV9 dc9 pm9 cd9 ct9 oc10 kV10 dc10 pm10 cd10 ct10 oc11 kV11 dc11 pm11 cd11 ct11 oc12 kV12 dc12 pm12 cd12 ct12 oc13 kV13 dc13 pm13 cd13 ct13 oc14 kV14 dc14 pm14 cd14 ct14 oc15 kV15 dc15 pm15 cd15 ct15 oc16 kV16 dc16 pm16 cd16 ct16 oc17 kV17 dc17 pm17 cd17 ct17 oc18 kV18 dc18 pm18 cd18 ct18 oc19 kV19 dc19 pm19 cd19 ct19 oc20 kV20 dc20 pm20 cd20 ct20 oc21 kV21 dc21 pm21 cd21 ct21 oc22 kV22 dc22 pm22 cd22 ct22 oc23 kV23 dc23 pm23 cd23 ct23 : Value}
    {D4 U4 : Addr} {doD4 doU4 : Option Addr} {nD4 nU4 : Nat} {slD4 slU4 : Array (Option Value)} {tU4 : Tok}
    (aProofsError : PySem.W.nsIn K mainGlobals "ProofsError" = some (some (.ref ProofsError)))
    (aInvalidTerm : PySem.W.nsIn K mainGlobals "InvalidTerm" = some (some (.ref InvalidTerm)))
    (aOutOfRange : PySem.W.nsIn K mainGlobals "OutOfRange" = some (some (.ref OutOfRange)))
    (aSizeMismatch : PySem.W.nsIn K mainGlobals "SizeMismatch" = some (some (.ref SizeMismatch)))
    (aTooLarge : PySem.W.nsIn K mainGlobals "TooLarge" = some (some (.ref TooLarge)))
    (aRow : PySem.W.nsIn K mainGlobals "Row" = some (some (.ref Row)))
    (zValueError : PySem.W.nsIn K mainGlobals "ValueError" = some none)
    (zall : PySem.W.nsIn K mainGlobals "all" = some none)
    (zbool : PySem.W.nsIn K mainGlobals "bool" = some none)
    (zint : PySem.W.nsIn K mainGlobals "int" = some none)
    (zisinstance : PySem.W.nsIn K mainGlobals "isinstance" = some none)
    (zlen : PySem.W.nsIn K mainGlobals "len" = some none)
    (zlist : PySem.W.nsIn K mainGlobals "list" = some none)
    (zmax : PySem.W.nsIn K mainGlobals "max" = some none)
    (zmin : PySem.W.nsIn K mainGlobals "min" = some none)
    (zrange : PySem.W.nsIn K mainGlobals "range" = some none)
    (zstr : PySem.W.nsIn K mainGlobals "str" = some none)
    (ztuple : PySem.W.nsIn K mainGlobals "tuple" = some none)
    (qOutOfRange : PySem.W.excIn K OutOfRange [.type "ValueError", .type "Exception", .type "BaseException", .type "object"] "ValueError.__new__" = true)
    (kOutOfRange : PySem.W.keepIn K (.ref OutOfRange) = true)
    (sOutOfRange : PySem.W.subIn K (.ref OutOfRange) (.type "BaseException") = some true)
    (tOutOfRange : PySem.W.typeIn K (.ref OutOfRange) = some (.type "type"))
    (hgOutOfRange : PySem.W.findIn K (.ref OutOfRange) "__getattribute__" = some (some (.builtin "BaseException.__getattribute__")))
    (hkOutOfRange : PySem.W.findIn K (.ref OutOfRange) "__getattr__" = some none)
    (hdOutOfRange : PySem.W.hasDictIn K OutOfRange = true)
    (haOutOfRange : PySem.W.findIn K (.ref OutOfRange) "__class__" = some (some (.builtin "object.__class__")))
    (hmOutOfRange : PySem.W.mroIn K OutOfRange (.type "object") = some true)
    (hn : PySem.W.specialIn K (.builtin "object.__class__") "__get__" = some (some (.builtin "getset_descriptor.__get__")))
    (ht : PySem.W.takesIn K (.builtin "object.__class__") = some true)
    (pgRow : PySem.W.plainGet K Row Str.empty = true)
    (hdRow : PySem.W.hasDictIn K Row = true)
    (poRow : PySem.W.plainOver K Row = true)
    (saRow : PySem.W.findIn K (.ref Row) "__setattr__" = some (some (.builtin "object.__setattr__")))
    (mkRow : PySem.W.makesIn K Row = true)
    (kcRow : PySem.W.keepIn K (.ref Row) = true)
    (haRow : PySem.W.findIn K (.ref Row) "__class__" = some (some (.builtin "object.__class__")))
    (hmRow : PySem.W.mroIn K Row (.type "object") = some true)
    (noRowhead : PySem.W.findIn K (.ref Row) "head" = some none)
    (noRowcycle : PySem.W.findIn K (.ref Row) "cycle" = some none)
    (icSizeMismatch : PySem.W.isClsIn K SizeMismatch = true)
    (tcSizeMismatch : PySem.W.typeIn K (.ref SizeMismatch) = some (.type "type"))
    (scSizeMismatch : PySem.W.subIn K (.ref OutOfRange) (.ref SizeMismatch) = some false)
    (neSizeMismatch : (OutOfRange == SizeMismatch) = false)
    (icTooLarge : PySem.W.isClsIn K TooLarge = true)
    (tcTooLarge : PySem.W.typeIn K (.ref TooLarge) = some (.type "type"))
    (scTooLarge : PySem.W.subIn K (.ref OutOfRange) (.ref TooLarge) = some false)
    (neTooLarge : (OutOfRange == TooLarge) = false)
    (icInvalidTerm : PySem.W.isClsIn K InvalidTerm = true)
    (tcInvalidTerm : PySem.W.typeIn K (.ref InvalidTerm) = some (.type "type"))
    (scInvalidTerm : PySem.W.subIn K (.ref OutOfRange) (.ref InvalidTerm) = some false)
    (neInvalidTerm : (OutOfRange == InvalidTerm) = false)
    (icProofsError : PySem.W.isClsIn K ProofsError = true)
    (tcProofsError : PySem.W.typeIn K (.ref ProofsError) = some (.type "type"))
    (scProofsError : PySem.W.subIn K (.ref OutOfRange) (.ref ProofsError) = some true)
    (bPE : PySem.W.subIn K (.ref ProofsError) (.type "BaseException") = some true)
    (sVE : PySem.W.subIn K (.ref OutOfRange) (.type "ValueError") = some true)
    (a1 : PySem.W.nsIn K mainGlobals "shortest_cycle" = some (some (.ref f1)))
    (l1 : K.lookup f1 = some ⟨oc1, od1, .func (PySem.W.fnOf "shortest_cycle" "shortest_cycle" (defArgs s_shortest_cycle) (defBody s_shortest_cycle) (defScope s_shortest_cycle) .none kV1 dc1 pm1 an1 cd1 ct1), sl1⟩)
    (c1 : PySem.W.codeIn K cd1 "shortest_cycle" = true)
    (k1 : PySem.W.keepIn K (.ref f1) = true)
    (a2 : PySem.W.nsIn K mainGlobals "turned" = some (some (.ref f2)))
    (l2 : K.lookup f2 = some ⟨oc2, od2, .func (PySem.W.fnOf "turned" "turned" (defArgs s_turned) (defBody s_turned) (defScope s_turned) .none kV2 dc2 pm2 an2 cd2 ct2), sl2⟩)
    (c2 : PySem.W.codeIn K cd2 "turned" = true)
    (k2 : PySem.W.keepIn K (.ref f2) = true)
    (a3 : PySem.W.nsIn K mainGlobals "loose_entries" = some (some (.ref f3)))
    (l3 : K.lookup f3 = some ⟨oc3, od3, .func (PySem.W.fnOf "loose_entries" "loose_entries" (defArgs s_loose_entries) (defBody s_loose_entries) (defScope s_loose_entries) .none kV3 dc3 pm3 an3 cd3 ct3), sl3⟩)
    (c3 : PySem.W.codeIn K cd3 "loose_entries" = true)
    (k3 : PySem.W.keepIn K (.ref f3) = true)
    (a4 : PySem.W.findIn K (.ref Row) "__init__" = some (some (.ref f4)))
    (i4 : PySem.W.isFn K (.ref f4) = true)
    (l4 : K.lookup f4 = some ⟨oc4, od4, .func (PySem.W.fnOf "__init__" "Row.__init__" (defArgs s_Row_init) (defBody s_Row_init) (defScope s_Row_init) (.ref D4) kV4 dc4 pm4 an4 cd4 ct4), sl4⟩)
    (c4 : PySem.W.codeIn K cd4 "Row.__init__" = true)
    (k4 : PySem.W.keepIn K (.ref f4) = true)
    (D4l : K.lookup D4 = some ⟨.type "tuple", doD4, .seq #[.ref U4] nD4, slD4⟩)
    (U4l : K.lookup U4 = some ⟨.type "tuple", doU4, .seq #[.int 0 tU4] nU4, slU4⟩)
    (a5 : PySem.W.findIn K (.ref Row) "__getitem__" = some (some (.ref f5)))
    (i5 : PySem.W.isFn K (.ref f5) = true)
    (l5 : K.lookup f5 = some ⟨oc5, od5, .func (PySem.W.fnOf "__getitem__" "Row.__getitem__" (defArgs s_Row_getitem) (defBody s_Row_getitem) (defScope s_Row_getitem) .none kV5 dc5 pm5 an5 cd5 ct5), sl5⟩)
    (c5 : PySem.W.codeIn K cd5 "Row.__getitem__" = true)
    (k5 : PySem.W.keepIn K (.ref f5) = true)
    (g5 : PySem.W.fnIn K f5 = true)
    (a6 : PySem.W.findIn K (.ref Row) "start" = some (some (.ref f6)))
    (i6 : PySem.W.isFn K (.ref f6) = true)
    (l6 : K.lookup f6 = some ⟨oc6, od6, .func (PySem.W.fnOf "start" "Row.start" (defArgs s_Row_start) (defBody s_Row_start) (defScope s_Row_start) .none kV6 dc6 pm6 an6 cd6 ct6), sl6⟩)
    (c6 : PySem.W.codeIn K cd6 "Row.start" = true)
    (k6 : PySem.W.keepIn K (.ref f6) = true)
    (a7 : PySem.W.findIn K (.ref Row) "least" = some (some (.ref f7)))
    (i7 : PySem.W.isFn K (.ref f7) = true)
    (l7 : K.lookup f7 = some ⟨oc7, od7, .func (PySem.W.fnOf "least" "Row.least" (defArgs s_Row_least) (defBody s_Row_least) (defScope s_Row_least) .none kV7 dc7 pm7 an7 cd7 ct7), sl7⟩)
    (c7 : PySem.W.codeIn K cd7 "Row.least" = true)
    (k7 : PySem.W.keepIn K (.ref f7) = true)
    (a8 : PySem.W.findIn K (.ref Row) "after" = some (some (.ref f8)))
    (i8 : PySem.W.isFn K (.ref f8) = true)
    (l8 : K.lookup f8 = some ⟨oc8, od8, .func (PySem.W.fnOf "after" "Row.after" (defArgs s_Row_after) (defBody s_Row_after) (defScope s_Row_after) .none kV8 dc8 pm8 an8 cd8 ct8), sl8⟩)
    (c8 : PySem.W.codeIn K cd8 "Row.after" = true)
    (k8 : PySem.W.keepIn K (.ref f8) = true)
    (a9 : PySem.W.nsIn K mainGlobals "same_rows" = some (some (.ref f9)))
    (l9 : K.lookup f9 = some ⟨oc9, od9, .func (PySem.W.fnOf "same_rows" "same_rows" (defArgs s_same_rows) (defBody s_same_rows) (defScope s_same_rows) .none kV9 dc9 pm9 an9 cd9 ct9), sl9⟩)
    (c9 : PySem.W.codeIn K cd9 "same_rows" = true)
    (k9 : PySem.W.keepIn K (.ref f9) = true)
    (a10 : PySem.W.nsIn K mainGlobals "_law_start" = some (some (.ref f10)))
    (l10 : K.lookup f10 = some ⟨oc10, od10, .func (PySem.W.fnOf "_law_start" "_law_start" (defArgs s_law_start) (defBody s_law_start) (defScope s_law_start) .none kV10 dc10 pm10 an10 cd10 ct10), sl10⟩)
    (c10 : PySem.W.codeIn K cd10 "_law_start" = true)
    (k10 : PySem.W.keepIn K (.ref f10) = true)
    (a11 : PySem.W.nsIn K mainGlobals "_law_pick" = some (some (.ref f11)))
    (l11 : K.lookup f11 = some ⟨oc11, od11, .func (PySem.W.fnOf "_law_pick" "_law_pick" (defArgs s_law_pick) (defBody s_law_pick) (defScope s_law_pick) .none kV11 dc11 pm11 an11 cd11 ct11), sl11⟩)
    (c11 : PySem.W.codeIn K cd11 "_law_pick" = true)
    (k11 : PySem.W.keepIn K (.ref f11) = true)
    (a12 : PySem.W.nsIn K mainGlobals "_law_same" = some (some (.ref f12)))
    (l12 : K.lookup f12 = some ⟨oc12, od12, .func (PySem.W.fnOf "_law_same" "_law_same" (defArgs s_law_same) (defBody s_law_same) (defScope s_law_same) .none kV12 dc12 pm12 an12 cd12 ct12), sl12⟩)
    (c12 : PySem.W.codeIn K cd12 "_law_same" = true)
    (k12 : PySem.W.keepIn K (.ref f12) = true)
    (a13 : PySem.W.nsIn K mainGlobals "_law_at" = some (some (.ref f13)))
    (l13 : K.lookup f13 = some ⟨oc13, od13, .func (PySem.W.fnOf "_law_at" "_law_at" (defArgs s_law_at) (defBody s_law_at) (defScope s_law_at) .none kV13 dc13 pm13 an13 cd13 ct13), sl13⟩)
    (c13 : PySem.W.codeIn K cd13 "_law_at" = true)
    (k13 : PySem.W.keepIn K (.ref f13) = true)
    (a14 : PySem.W.nsIn K mainGlobals "_law_least" = some (some (.ref f14)))
    (l14 : K.lookup f14 = some ⟨oc14, od14, .func (PySem.W.fnOf "_law_least" "_law_least" (defArgs s_law_least) (defBody s_law_least) (defScope s_law_least) .none kV14 dc14 pm14 an14 cd14 ct14), sl14⟩)
    (c14 : PySem.W.codeIn K cd14 "_law_least" = true)
    (k14 : PySem.W.keepIn K (.ref f14) = true)
    (a15 : PySem.W.nsIn K mainGlobals "_law_behind" = some (some (.ref f15)))
    (l15 : K.lookup f15 = some ⟨oc15, od15, .func (PySem.W.fnOf "_law_behind" "_law_behind" (defArgs s_law_behind) (defBody s_law_behind) (defScope s_law_behind) .none kV15 dc15 pm15 an15 cd15 ct15), sl15⟩)
    (c15 : PySem.W.codeIn K cd15 "_law_behind" = true)
    (k15 : PySem.W.keepIn K (.ref f15) = true)
    (a16 : PySem.W.nsIn K mainGlobals "_law_is_row" = some (some (.ref f16)))
    (l16 : K.lookup f16 = some ⟨oc16, od16, .func (PySem.W.fnOf "_law_is_row" "_law_is_row" (defArgs s_law_is_row) (defBody s_law_is_row) (defScope s_law_is_row) .none kV16 dc16 pm16 an16 cd16 ct16), sl16⟩)
    (c16 : PySem.W.codeIn K cd16 "_law_is_row" = true)
    (k16 : PySem.W.keepIn K (.ref f16) = true)
    (a17 : PySem.W.nsIn K mainGlobals "_law_row" = some (some (.ref f17)))
    (l17 : K.lookup f17 = some ⟨oc17, od17, .func (PySem.W.fnOf "_law_row" "_law_row" (defArgs s_law_row) (defBody s_law_row) (defScope s_law_row) .none kV17 dc17 pm17 an17 cd17 ct17), sl17⟩)
    (c17 : PySem.W.codeIn K cd17 "_law_row" = true)
    (k17 : PySem.W.keepIn K (.ref f17) = true)
    (a18 : PySem.W.nsIn K mainGlobals "_law_other" = some (some (.ref f18)))
    (l18 : K.lookup f18 = some ⟨oc18, od18, .func (PySem.W.fnOf "_law_other" "_law_other" (defArgs s_law_other) (defBody s_law_other) (defScope s_law_other) .none kV18 dc18 pm18 an18 cd18 ct18), sl18⟩)
    (c18 : PySem.W.codeIn K cd18 "_law_other" = true)
    (k18 : PySem.W.keepIn K (.ref f18) = true)
    (a19 : PySem.W.nsIn K mainGlobals "_law_bent" = some (some (.ref f19)))
    (l19 : K.lookup f19 = some ⟨oc19, od19, .func (PySem.W.fnOf "_law_bent" "_law_bent" (defArgs s_law_bent) (defBody s_law_bent) (defScope s_law_bent) .none kV19 dc19 pm19 an19 cd19 ct19), sl19⟩)
    (c19 : PySem.W.codeIn K cd19 "_law_bent" = true)
    (k19 : PySem.W.keepIn K (.ref f19) = true)
    (a20 : PySem.W.nsIn K mainGlobals "_law_asked" = some (some (.ref f20)))
    (l20 : K.lookup f20 = some ⟨oc20, od20, .func (PySem.W.fnOf "_law_asked" "_law_asked" (defArgs s_law_asked) (defBody s_law_asked) (defScope s_law_asked) .none kV20 dc20 pm20 an20 cd20 ct20), sl20⟩)
    (c20 : PySem.W.codeIn K cd20 "_law_asked" = true)
    (k20 : PySem.W.keepIn K (.ref f20) = true)
    (a21 : PySem.W.nsIn K mainGlobals "_law_refusals" = some (some (.ref f21)))
    (l21 : K.lookup f21 = some ⟨oc21, od21, .func (PySem.W.fnOf "_law_refusals" "_law_refusals" (defArgs s_law_refusals) (defBody s_law_refusals) (defScope s_law_refusals) .none kV21 dc21 pm21 an21 cd21 ct21), sl21⟩)
    (c21 : PySem.W.codeIn K cd21 "_law_refusals" = true)
    (k21 : PySem.W.keepIn K (.ref f21) = true)
    (a22 : PySem.W.nsIn K mainGlobals "_law_entries" = some (some (.ref f22)))
    (l22 : K.lookup f22 = some ⟨oc22, od22, .func (PySem.W.fnOf "_law_entries" "_law_entries" (defArgs s_law_entries) (defBody s_law_entries) (defScope s_law_entries) .none kV22 dc22 pm22 an22 cd22 ct22), sl22⟩)
    (c22 : PySem.W.codeIn K cd22 "_law_entries" = true)
    (k22 : PySem.W.keepIn K (.ref f22) = true)
    (a23 : PySem.W.nsIn K mainGlobals "law" = some (some (.ref f23)))
    (l23 : K.lookup f23 = some ⟨oc23, od23, .func (PySem.W.fnOf "law" "law" (defArgs s_law) (defBody s_law) (defScope s_law) .none kV23 dc23 pm23 an23 cd23 ct23), sl23⟩)
    (c23 : PySem.W.codeIn K cd23 "law" = true)
    (k23 : PySem.W.keepIn K (.ref f23) = true)
    : ∃ fd : FuncData, (∀ (s : Shared) (v : Value), BindsTo s fd ⟨[v], []⟩ [("script", v)]) ∧ ∀ base : Heap, K.In base → base.Ns mainGlobals mg → FnOk l.prog w K mg base (L2.CX l.prog w) 7 fa fd ["script"] (liftSp K (spScript K)) := by
  have e := hfa.symm.trans (PySem.W.mg_of X G a23)
  cases e
  let A : Adr := ⟨ProofsError, InvalidTerm, OutOfRange, SizeMismatch, TooLarge, Row⟩
  have clRow : Cls K Row := ⟨pgRow, hdRow, poRow, saRow⟩
  have T : Txt K mg A := {
    n_ValueError := PySem.W.mg_none_of X G zValueError
    n_all := PySem.W.mg_none_of X G zall
    n_bool := PySem.W.mg_none_of X G zbool
    n_int := PySem.W.mg_none_of X G zint
    n_isinstance := PySem.W.mg_none_of X G zisinstance
    n_len := PySem.W.mg_none_of X G zlen
    n_list := PySem.W.mg_none_of X G zlist
    n_max := PySem.W.mg_none_of X G zmax
    n_min := PySem.W.mg_none_of X G zmin
    n_range := PySem.W.mg_none_of X G zrange
    n_str := PySem.W.mg_none_of X G zstr
    n_tuple := PySem.W.mg_none_of X G ztuple
    m_ProofsError := PySem.W.mg_of X G aProofsError
    m_InvalidTerm := PySem.W.mg_of X G aInvalidTerm
    m_OutOfRange := PySem.W.mg_of X G aOutOfRange
    m_SizeMismatch := PySem.W.mg_of X G aSizeMismatch
    m_TooLarge := PySem.W.mg_of X G aTooLarge
    x_OutOfRange := ⟨qOutOfRange, PySem.W.mg_of X G aOutOfRange, kOutOfRange, sOutOfRange, tOutOfRange⟩
    m_Row := PySem.W.mg_of X G aRow
    i_Row := ⟨clRow, haRow, hn, ht, hmRow⟩
    d_Row_head := ⟨clRow, noRowhead⟩
    d_Row_cycle := ⟨clRow, noRowcycle⟩
    f_Row_getitem := fun f q => by
      have q2 := (show PySem.W.findIn K (.ref Row) "__getitem__" = some (some (.ref f)) from q).symm.trans a5
      cases q2
      exact g5
    k_row := kit_self
    k_sm := kit_ne neSizeMismatch icSizeMismatch tcSizeMismatch scSizeMismatch
    k_tl := kit_ne neTooLarge icTooLarge tcTooLarge scTooLarge
    k_it := kit_ne neInvalidTerm icInvalidTerm tcInvalidTerm scInvalidTerm
    k_or := kit_self
    k_ve := kit_bt meta_VE sVE
    c_or := ⟨hgOutOfRange, hkOutOfRange, sOutOfRange, hdOutOfRange, haOutOfRange, hn, ht, hmOutOfRange⟩
    e_or := exm_sub bPE icProofsError tcProofsError scProofsError }
  have F1 := fun_mk (st := s_shortest_cycle) l1 c1 k1
  have b1 := F1.binds (ps := P_shortest_cycle) fun _ _ _ _ _ _ us hl => match us, hl with | [_], _ => rfl
  have F2 := fun_mk (st := s_turned) l2 c2 k2
  have b2 := F2.binds (ps := P_turned) fun _ _ _ _ _ _ us hl => match us, hl with | [_, _], _ => rfl
  have F3 := fun_mk (st := s_loose_entries) l3 c3 k3
  have b3 := F3.binds (ps := P_loose_entries) fun _ _ _ _ _ _ us hl => match us, hl with | [_, _], _ => rfl
  have R4 : ∀ H, RpL K H [V.ref U4] dd_Row_init_1 := fun H => .cons (.tup (xs := [V.int 0]) (.inr ⟨_, #[.int 0 tU4], nU4, U4l, rfl, rfl, (by rw [PySem.sizeLine_eq]; show 1 ≤ 16777216; omega), .cons ⟨_, rfl⟩ .nil⟩) (.cons (.int 0) .nil)) .nil
  have F4 : FunD K "__init__" "Row.__init__" (defArgs s_Row_init) (defBody s_Row_init) (defScope s_Row_init) [V.ref U4] [] f4 _ := ⟨⟨oc4, od4, .ref D4, kV4, dc4, pm4, an4, cd4, ct4, sl4, rfl, l4, c4, .inr ⟨by simp, D4, _, [.ref U4], nD4, rfl, D4l, rfl, .cons rfl .nil⟩, .inl rfl⟩, k4⟩
  obtain ⟨e4, v4, b4⟩ := F4.binds1 (ps := P_Row_init) 3 1 (by simp) rfl fun _ _ _ _ _ _ _ us its hl h2 => match us, its, hl, h2 with | [_, _, _], [_], _, _ => ⟨_, rfl, rfl⟩
  obtain ⟨e4d, v4d, b4d⟩ := F4.binds1 (ps := P_Row_init) 2 0 (by simp) rfl fun _ _ _ _ _ _ _ us its hl h2 => match us, its, hl, h2 with | [_, _], [_], _, _ => ⟨_, rfl, rfl⟩
  have F5 := fun_mk (st := s_Row_getitem) l5 c5 k5
  have b5 := F5.binds (ps := P_Row_getitem) fun _ _ _ _ _ _ us hl => match us, hl with | [_, _], _ => rfl
  have F6 := fun_mk (st := s_Row_start) l6 c6 k6
  have b6 := F6.binds (ps := P_Row_start) fun _ _ _ _ _ _ us hl => match us, hl with | [_, _], _ => rfl
  have F7 := fun_mk (st := s_Row_least) l7 c7 k7
  have b7 := F7.binds (ps := P_Row_least) fun _ _ _ _ _ _ us hl => match us, hl with | [_], _ => rfl
  have F8 := fun_mk (st := s_Row_after) l8 c8 k8
  have b8 := F8.binds (ps := P_Row_after) fun _ _ _ _ _ _ us hl => match us, hl with | [_, _], _ => rfl
  have F9 := fun_mk (st := s_same_rows) l9 c9 k9
  have b9 := F9.binds (ps := P_same_rows) fun _ _ _ _ _ _ us hl => match us, hl with | [_, _], _ => rfl
  have F10 := fun_mk (st := s_law_start) l10 c10 k10
  have b10 := F10.binds (ps := P_law_start) fun _ _ _ _ _ _ us hl => match us, hl with | [_], _ => rfl
  have F11 := fun_mk (st := s_law_pick) l11 c11 k11
  have b11 := F11.binds (ps := P_law_pick) fun _ _ _ _ _ _ us hl => match us, hl with | [_, _], _ => rfl
  have F12 := fun_mk (st := s_law_same) l12 c12 k12
  have b12 := F12.binds (ps := P_law_same) fun _ _ _ _ _ _ us hl => match us, hl with | [_, _], _ => rfl
  have F13 := fun_mk (st := s_law_at) l13 c13 k13
  have b13 := F13.binds (ps := P_law_at) fun _ _ _ _ _ _ us hl => match us, hl with | [_, _, _], _ => rfl
  have F14 := fun_mk (st := s_law_least) l14 c14 k14
  have b14 := F14.binds (ps := P_law_least) fun _ _ _ _ _ _ us hl => match us, hl with | [_, _], _ => rfl
  have F15 := fun_mk (st := s_law_behind) l15 c15 k15
  have b15 := F15.binds (ps := P_law_behind) fun _ _ _ _ _ _ us hl => match us, hl with | [_, _, _], _ => rfl
  have F16 := fun_mk (st := s_law_is_row) l16 c16 k16
  have b16 := F16.binds (ps := P_law_is_row) fun _ _ _ _ _ _ us hl => match us, hl with | [_, _], _ => rfl
  have F17 := fun_mk (st := s_law_row) l17 c17 k17
  have b17 := F17.binds (ps := P_law_row) fun _ _ _ _ _ _ us hl => match us, hl with | [_], _ => rfl
  have F18 := fun_mk (st := s_law_other) l18 c18 k18
  have b18 := F18.binds (ps := P_law_other) fun _ _ _ _ _ _ us hl => match us, hl with | [_, _, _], _ => rfl
  have F19 := fun_mk (st := s_law_bent) l19 c19 k19
  have b19 := F19.binds (ps := P_law_bent) fun _ _ _ _ _ _ us hl => match us, hl with | [_, _, _, _], _ => rfl
  have F20 := fun_mk (st := s_law_asked) l20 c20 k20
  have b20 := F20.binds (ps := P_law_asked) fun _ _ _ _ _ _ us hl => match us, hl with | [_, _, _, _, _], _ => rfl
  have F21 := fun_mk (st := s_law_refusals) l21 c21 k21
  have b21 := F21.binds (ps := P_law_refusals) fun _ _ _ _ _ _ us hl => match us, hl with | [_, _, _, _], _ => rfl
  have F22 := fun_mk (st := s_law_entries) l22 c22 k22
  have b22 := F22.binds (ps := P_law_entries) fun _ _ _ _ _ _ us hl => match us, hl with | [_, _, _, _], _ => rfl
  have F23 := fun_mk (st := s_law) l23 c23 k23
  have b23 := F23.binds (ps := P_law) fun _ _ _ _ _ _ us hl => match us, hl with | [_], _ => rfl
  refine ⟨PySem.W.fnOf "law" "law" (defArgs s_law) (defBody s_law) (defScope s_law) .none kV23 dc23 pm23 an23 cd23 ct23, fun s v => .of_eq rfl, fun base _ _ => ?_⟩
  have O1 : FnOk l.prog w K mg base (L2.CX l.prog w) 1 f1 _ P_shortest_cycle (liftSp K (sp_shortest_cycle)) := ok_shortest_cycle T  F1 (sp_shortest_cycle) (len_shortest_cycle) (r_shortest_cycle)
  have G_shortest_cycle : FnD l.prog w K mg base 1 "shortest_cycle" P_shortest_cycle [] (sp_shortest_cycle) := fnd_mk F1 (PySem.W.mg_of X G a1) b1 O1
  have O2 : FnOk l.prog w K mg base (L2.CX l.prog w) 1 f2 _ P_turned (liftSp K (sp_turned)) := ok_turned T  F2 (sp_turned) (len_turned) (r_turned)
  have G_turned : FnD l.prog w K mg base 1 "turned" P_turned [] (sp_turned) := fnd_mk F2 (PySem.W.mg_of X G a2) b2 O2
  have O3 : FnOk l.prog w K mg base (L2.CX l.prog w) 1 f3 _ P_loose_entries (liftSp K (sp_loose_entries)) := ok_loose_entries T  F3 (sp_loose_entries) (len_loose_entries) (r_loose_entries)
  have G_loose_entries : FnD l.prog w K mg base 1 "loose_entries" P_loose_entries [] (sp_loose_entries) := fnd_mk F3 (PySem.W.mg_of X G a3) b3 O3
  have O4 : FnOk l.prog w K mg base (L2.CX l.prog w) 1 f4 _ P_Row_init (liftSp K (sp_Row_init A)) := ok_Row_init T  F4 (sp_Row_init A) (len_Row_init) (r_Row_init T)
  have G_Row_init : MakD l.prog w K mg base 1 "Row" A.Row P_Row_init [] (sp_Row_init A) := ⟨f4, _, [], e4, ⟨mkRow, a4, i4, kcRow⟩, PySem.W.mg_of X G aRow, O4, b4, v4, fun _ => .nil⟩
  have G_Row_init_1 : MakD l.prog w K mg base 1 "Row" A.Row P_Row_init dd_Row_init_1 (sp_Row_init A) := ⟨f4, _, [V.ref U4], e4d, ⟨mkRow, a4, i4, kcRow⟩, PySem.W.mg_of X G aRow, O4, b4d, v4d, R4⟩
  have O5 : FnOk l.prog w K mg base (L2.CX l.prog w) 1 f5 _ P_Row_getitem (liftSp K (sp_Row_getitem A)) := ok_Row_getitem T  F5 (sp_Row_getitem A) (len_Row_getitem) (r_Row_getitem T)
  have G_Row_getitem : MetD l.prog w K mg base 1 A.Row "__getitem__" P_Row_getitem [] (sp_Row_getitem A) := ⟨f5, _, [], [], clRow, ⟨a5, i5, k5⟩, O5, b5, .nil, fun _ => .nil⟩
  have O6 : FnOk l.prog w K mg base (L2.CX l.prog w) 3 f6 _ P_Row_start (liftSp K (sp_Row_start A)) := ok_Row_start T G_Row_getitem F6 (sp_Row_start A) (len_Row_start) (r_Row_start T)
  have G_Row_start : MetD l.prog w K mg base 3 A.Row "start" P_Row_start [] (sp_Row_start A) := ⟨f6, _, [], [], clRow, ⟨a6, i6, k6⟩, O6, b6, .nil, fun _ => .nil⟩
  have O7 : FnOk l.prog w K mg base (L2.CX l.prog w) 3 f7 _ P_Row_least (liftSp K (sp_Row_least A)) := ok_Row_least T G_Row_init G_loose_entries G_shortest_cycle G_turned F7 (sp_Row_least A) (len_Row_least) (r_Row_least T)
  have G_Row_least : MetD l.prog w K mg base 3 A.Row "least" P_Row_least [] (sp_Row_least A) := ⟨f7, _, [], [], clRow, ⟨a7, i7, k7⟩, O7, b7, .nil, fun _ => .nil⟩
  have O8 : FnOk l.prog w K mg base (L2.CX l.prog w) 4 f8 _ P_Row_after (liftSp K (sp_Row_after A)) := ok_Row_after T G_Row_init G_Row_least G_turned F8 (sp_Row_after A) (len_Row_after) (r_Row_after T)
  have G_Row_after : MetD l.prog w K mg base 4 A.Row "after" P_Row_after [] (sp_Row_after A) := ⟨f8, _, [], [], clRow, ⟨a8, i8, k8⟩, O8, b8, .nil, fun _ => .nil⟩
  have O9 : FnOk l.prog w K mg base (L2.CX l.prog w) 4 f9 _ P_same_rows (liftSp K (sp_same_rows A)) := ok_same_rows T G_Row_least F9 (sp_same_rows A) (len_same_rows) (r_same_rows T)
  have G_same_rows : FnD l.prog w K mg base 4 "same_rows" P_same_rows [] (sp_same_rows A) := fnd_mk F9 (PySem.W.mg_of X G a9) b9 O9
  have O10 : FnOk l.prog w K mg base (L2.CX l.prog w) 1 f10 _ P_law_start (liftSp K (sp_law_start K)) := fnOk_or (ok_law_start T F10 sp_law_start1 (fun ds M Q E h => by (repeat (obtain ⟨_, h⟩ := h)); subst_vars; rfl) r_law_start) (ok_law_startK T F10 (sp_law_start2 K) (fun ds M Q E h => by (repeat (obtain ⟨_, h⟩ := h)); subst_vars; rfl) r_law_startK) (fun ds M Q E ⟨a, ns, e, h, r⟩ => h.elim (fun h => .inl ⟨a, ns, e, h, r⟩) fun h => .inr ⟨a, ns, e, h, r⟩)
  have G_law_start : FnD l.prog w K mg base 1 "_law_start" P_law_start [] (sp_law_start K) := fnd_mk F10 (PySem.W.mg_of X G a10) b10 O10
  have O11 : FnOk l.prog w K mg base (L2.CX l.prog w) 1 f11 _ P_law_pick (liftSp K (sp_law_pick)) := ok_law_pick T  F11 (sp_law_pick) (len_law_pick) (r_law_pick)
  have G_law_pick : FnD l.prog w K mg base 1 "_law_pick" P_law_pick [] (sp_law_pick) := fnd_mk F11 (PySem.W.mg_of X G a11) b11 O11
  have GG_law_same : ∀ n, FnD l.prog w K mg base n "_law_same" P_law_same [] (sp_law_same n) := fun n => by
    induction n with
    | zero => exact fnd_mk F12 (PySem.W.mg_of X G a12) b12 fnOk_no
    | succ n ih => exact fnd_mk F12 (PySem.W.mg_of X G a12) b12 (ok_law_same T ih F12 (sp_law_same (n + 1)) (len_law_same) r_law_same)
  have G_law_same := GG_law_same 4
  have O13 : FnOk l.prog w K mg base (L2.CX l.prog w) 1 f13 _ P_law_at (liftSp K (sp_law_at)) := ok_law_at T  F13 (sp_law_at) (len_law_at) (r_law_at)
  have G_law_at : FnD l.prog w K mg base 1 "_law_at" P_law_at [] (sp_law_at) := fnd_mk F13 (PySem.W.mg_of X G a13) b13 O13
  have O14 : FnOk l.prog w K mg base (L2.CX l.prog w) 1 f14 _ P_law_least (liftSp K (sp_law_least)) := ok_law_least T  F14 (sp_law_least) (len_law_least) (r_law_least)
  have G_law_least : FnD l.prog w K mg base 1 "_law_least" P_law_least [] (sp_law_least) := fnd_mk F14 (PySem.W.mg_of X G a14) b14 O14
  have O15 : FnOk l.prog w K mg base (L2.CX l.prog w) 2 f15 _ P_law_behind (liftSp K (sp_law_behind)) := ok_law_behind T G_law_at G_law_least F15 (sp_law_behind) (len_law_behind) (r_law_behind)
  have G_law_behind : FnD l.prog w K mg base 2 "_law_behind" P_law_behind [] (sp_law_behind) := fnd_mk F15 (PySem.W.mg_of X G a15) b15 O15
  have O16 : FnOk l.prog w K mg base (L2.CX l.prog w) 5 f16 _ P_law_is_row (liftSp K (sp_law_is_row A)) := ok_law_is_row T G_law_same F16 (sp_law_is_row A) (len_law_is_row) (r_law_is_row T)
  have G_law_is_row : FnD l.prog w K mg base 5 "_law_is_row" P_law_is_row [] (sp_law_is_row A) := fnd_mk F16 (PySem.W.mg_of X G a16) b16 O16
  have O17 : FnOk l.prog w K mg base (L2.CX l.prog w) 2 f17 _ P_law_row (liftSp K (sp_law_row)) := ok_law_row T G_law_pick F17 (sp_law_row) (len_law_row) (r_law_row)
  have G_law_row : FnD l.prog w K mg base 2 "_law_row" P_law_row [] (sp_law_row) := fnd_mk F17 (PySem.W.mg_of X G a17) b17 O17
  have O18 : FnOk l.prog w K mg base (L2.CX l.prog w) 2 f18 _ P_law_other (liftSp K (sp_law_other)) := ok_law_other T G_law_pick F18 (sp_law_other) (len_law_other) (r_law_other)
  have G_law_other : FnD l.prog w K mg base 2 "_law_other" P_law_other [] (sp_law_other) := fnd_mk F18 (PySem.W.mg_of X G a18) b18 O18
  have O19 : FnOk l.prog w K mg base (L2.CX l.prog w) 2 f19 _ P_law_bent (liftSp K (sp_law_bent)) := ok_law_bent T G_law_pick F19 (sp_law_bent) (len_law_bent) (r_law_bent)
  have G_law_bent : FnD l.prog w K mg base 2 "_law_bent" P_law_bent [] (sp_law_bent) := fnd_mk F19 (PySem.W.mg_of X G a19) b19 O19
  have O20 : FnOk l.prog w K mg base (L2.CX l.prog w) 5 f20 _ P_law_asked (liftSp K (sp_law_asked A)) := ok_law_asked T G_Row_getitem G_Row_init G_Row_after G_Row_start F20 (sp_law_asked A) (len_law_asked) (r_law_asked T)
  have G_law_asked : FnD l.prog w K mg base 5 "_law_asked" P_law_asked [] (sp_law_asked A) := fnd_mk F20 (PySem.W.mg_of X G a20) b20 O20
  have O21 : FnOk l.prog w K mg base (L2.CX l.prog w) 6 f21 _ P_law_refusals (liftSp K (sp_law_refusals A)) := ok_law_refusals T G_Row_init G_Row_least G_law_asked G_law_at G_law_is_row G_law_least G_law_pick G_law_same F21 (sp_law_refusals A) (len_law_refusals) (r_law_refusals T)
  have G_law_refusals : FnD l.prog w K mg base 6 "_law_refusals" P_law_refusals [] (sp_law_refusals A) := fnd_mk F21 (PySem.W.mg_of X G a21) b21 O21
  have O22 : FnOk l.prog w K mg base (L2.CX l.prog w) 6 f22 _ P_law_entries (liftSp K (sp_law_entries A)) := ok_law_entries T G_Row_getitem G_Row_after G_Row_start G_law_at G_law_behind G_law_is_row G_law_pick G_law_same F22 (sp_law_entries A) (len_law_entries) (r_law_entries T)
  have G_law_entries : FnD l.prog w K mg base 6 "_law_entries" P_law_entries [] (sp_law_entries A) := fnd_mk F22 (PySem.W.mg_of X G a22) b22 O22
  exact ok_law T G_Row_getitem G_Row_init_1 G_Row_init G_Row_least G_law_bent G_law_entries G_law_is_row G_law_least G_law_other G_law_refusals G_law_row G_law_same G_law_start G_same_rows F23 (sp_law K) (len_law) (r_law T)
end K55

open PySem PySem.W PyProof.Rows
set_option maxRecDepth 100000 in
set_option maxHeartbeats 0 in
theorem PySem.Challenge.cw_proofchoosers_k55_endless_rows_in_least_holds : PySem.Challenge.rw_proofchoosers_k55_endless_rows_in_least.Holds := by
  w_on; o_law; k_head; (case hw => w_witness2)
  k_fill
  refine DL.walkD (n := 63) (k := 7) (x := "script") (l := PySem.Challenge.rw_proofchoosers_k55_endless_rows_in_least) rfl (by decide) rfl ⟨rfl, by decide, by decide⟩ (fun w h Y => PySem.W.kIn_of Y) ?F
  case F =>
    intro w mg fa h KX G hmg
    refine' K55.all_mk KX G hmg ?aProofsError ?aInvalidTerm ?aOutOfRange ?aSizeMismatch ?aTooLarge ?aRow ?zValueError ?zall ?zbool ?zint ?zisinstance ?zlen ?zlist ?zmax ?zmin ?zrange ?zstr ?ztuple ?qOutOfRange ?kOutOfRange ?sOutOfRange ?tOutOfRange ?hgOutOfRange ?hkOutOfRange ?hdOutOfRange ?haOutOfRange ?hmOutOfRange ?hn ?ht ?pgRow ?hdRow ?poRow ?saRow ?mkRow ?kcRow ?haRow ?hmRow ?noRowhead ?noRowcycle ?icSizeMismatch ?tcSizeMismatch ?scSizeMismatch ?neSizeMismatch ?icTooLarge ?tcTooLarge ?scTooLarge ?neTooLarge ?icInvalidTerm ?tcInvalidTerm ?scInvalidTerm ?neInvalidTerm ?icProofsError ?tcProofsError ?scProofsError ?bPE ?sVE ?a1 ?l1 ?c1 ?k1 ?a2 ?l2 ?c2 ?k2 ?a3 ?l3 ?c3 ?k3 ?a4 ?i4 ?l4 ?c4 ?k4 ?D4l ?U4l ?a5 ?i5 ?l5 ?c5 ?k5 ?g5 ?a6 ?i6 ?l6 ?c6 ?k6 ?a7 ?i7 ?l7 ?c7 ?k7 ?a8 ?i8 ?l8 ?c8 ?k8 ?a9 ?l9 ?c9 ?k9 ?a10 ?l10 ?c10 ?k10 ?a11 ?l11 ?c11 ?k11 ?a12 ?l12 ?c12 ?k12 ?a13 ?l13 ?c13 ?k13 ?a14 ?l14 ?c14 ?k14 ?a15 ?l15 ?c15 ?k15 ?a16 ?l16 ?c16 ?k16 ?a17 ?l17 ?c17 ?k17 ?a18 ?l18 ?c18 ?k18 ?a19 ?l19 ?c19 ?k19 ?a20 ?l20 ?c20 ?k20 ?a21 ?l21 ?c21 ?k21 ?a22 ?l22 ?c22 ?k22 ?a23 ?l23 ?c23 ?k23
    (case aProofsError => k_is)
    (case aInvalidTerm => k_is)
    (case aOutOfRange => k_is)
    (case aSizeMismatch => k_is)
    (case aTooLarge => k_is)
    (case aRow => k_is)
    (case zValueError => k_is)
    (case zall => k_is)
    (case zbool => k_is)
    (case zint => k_is)
    (case zisinstance => k_is)
    (case zlen => k_is)
    (case zlist => k_is)
    (case zmax => k_is)
    (case zmin => k_is)
    (case zrange => k_is)
    (case zstr => k_is)
    (case ztuple => k_is)
    (case qOutOfRange => k_exc)
    (case kOutOfRange => k_is)
    (case sOutOfRange => k_is)
    (case tOutOfRange => k_is)
    (case hgOutOfRange => k_is)
    (case hkOutOfRange => k_is)
    (case hdOutOfRange => k_is)
    (case haOutOfRange => k_is)
    (case hmOutOfRange => k_is)
    (case hn => k_is)
    (case ht => k_is)
    (case pgRow => k_is)
    (case hdRow => k_is)
    (case poRow => k_is)
    (case saRow => k_is)
    (case mkRow => k_is)
    (case kcRow => k_is)
    (case haRow => k_is)
    (case hmRow => k_is)
    (case noRowhead => k_is)
    (case noRowcycle => k_is)
    (case icSizeMismatch => k_is)
    (case tcSizeMismatch => k_is)
    (case scSizeMismatch => k_is)
    (case neSizeMismatch => rfl)
    (case icTooLarge => k_is)
    (case tcTooLarge => k_is)
    (case scTooLarge => k_is)
    (case neTooLarge => rfl)
    (case icInvalidTerm => k_is)
    (case tcInvalidTerm => k_is)
    (case scInvalidTerm => k_is)
    (case neInvalidTerm => rfl)
    (case icProofsError => k_is)
    (case tcProofsError => k_is)
    (case scProofsError => k_is)
    (case bPE => k_is)
    (case sVE => k_is)
    (case a1 => k_is)
    (case l1 => k_is)
    (case c1 => k_is)
    (case k1 => k_is)
    (case a2 => k_is)
    (case l2 => k_is)
    (case c2 => k_is)
    (case k2 => k_is)
    (case a3 => k_is)
    (case l3 => k_is)
    (case c3 => k_is)
    (case k3 => k_is)
    (case a4 => k_is)
    (case i4 => k_is)
    (case l4 => k_is)
    (case c4 => k_is)
    (case k4 => k_is)
    (case D4l => k_is)
    (case U4l => k_is)
    (case a5 => k_is)
    (case i5 => k_is)
    (case l5 => k_is)
    (case c5 => k_is)
    (case k5 => k_is)
    (case g5 => k_is)
    (case a6 => k_is)
    (case i6 => k_is)
    (case l6 => k_is)
    (case c6 => k_is)
    (case k6 => k_is)
    (case a7 => k_is)
    (case i7 => k_is)
    (case l7 => k_is)
    (case c7 => k_is)
    (case k7 => k_is)
    (case a8 => k_is)
    (case i8 => k_is)
    (case l8 => k_is)
    (case c8 => k_is)
    (case k8 => k_is)
    (case a9 => k_is)
    (case l9 => k_is)
    (case c9 => k_is)
    (case k9 => k_is)
    (case a10 => k_is)
    (case l10 => k_is)
    (case c10 => k_is)
    (case k10 => k_is)
    (case a11 => k_is)
    (case l11 => k_is)
    (case c11 => k_is)
    (case k11 => k_is)
    (case a12 => k_is)
    (case l12 => k_is)
    (case c12 => k_is)
    (case k12 => k_is)
    (case a13 => k_is)
    (case l13 => k_is)
    (case c13 => k_is)
    (case k13 => k_is)
    (case a14 => k_is)
    (case l14 => k_is)
    (case c14 => k_is)
    (case k14 => k_is)
    (case a15 => k_is)
    (case l15 => k_is)
    (case c15 => k_is)
    (case k15 => k_is)
    (case a16 => k_is)
    (case l16 => k_is)
    (case c16 => k_is)
    (case k16 => k_is)
    (case a17 => k_is)
    (case l17 => k_is)
    (case c17 => k_is)
    (case k17 => k_is)
    (case a18 => k_is)
    (case l18 => k_is)
    (case c18 => k_is)
    (case k18 => k_is)
    (case a19 => k_is)
    (case l19 => k_is)
    (case c19 => k_is)
    (case k19 => k_is)
    (case a20 => k_is)
    (case l20 => k_is)
    (case c20 => k_is)
    (case k20 => k_is)
    (case a21 => k_is)
    (case l21 => k_is)
    (case c21 => k_is)
    (case k21 => k_is)
    (case a22 => k_is)
    (case l22 => k_is)
    (case c22 => k_is)
    (case k22 => k_is)
    (case a23 => k_is)
    (case l23 => k_is)
    (case c23 => k_is)
    (case k23 => k_is)
#print axioms PySem.Challenge.cw_proofchoosers_k55_endless_rows_in_least_holds

