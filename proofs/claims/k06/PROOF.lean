import PyProof.Rows.All
import Wide.All
import OpenK.AllK
import Wide.FinOn
import HandS.ForMost
import HandS.ForExc
import HandS.TupAny
import HandS.IsInst
import HandS.Wide
import HandS.WideBits
import HandS.TupMul
import HandS.Style
import HandS.CallSlots
import HandS.Codes
import HandS.EndBits
import HandS.ExcIs
import HandS.ExcField
import HandS.TryMany
import HandS.Defaults
import HandS.Zip
import HandS.Iter
import HandS.Deep
import PyProof.DictUpdate
import PyProof.DictDisplay
import HandS.Small
import HandS.WordsDict
import HandS.SortInts
import HandS.Text
import HandS.More
import PySem.Challenge.RW_proofchoosers_k06_sentences_alike
set_option Elab.async false
set_option linter.all false
set_option maxRecDepth 100000
namespace DL
open PySem L2

/-- plain data: tuples are values, mutable things are addresses -/
inductive D where
  | non | bl (b : Bool) | int (i : Int) | str (x : Str) | tup (xs : List D) | ref (a : Addr) | ty (n : String)

section
variable (K : PySem.W.Frag) (H : Hp)
mutual
inductive Rp : V → D → Prop
  | non : Rp .non .non
  | bl (b) : Rp (.bl b) (.bl b)
  | int (i) : Rp (.int i) (.int i)
  | str (x) : Rp (.str x) (.str x)
  | ref (a) : Rp (.ref a) (.ref a)
  | ty (n) : Rp (.ty n) (.ty n)
  | tup {a : Addr} {xs : List V} {ds : List D} : SqT K H a xs → RpL xs ds → Rp (.ref a) (.tup ds)
inductive RpL : List V → List D → Prop
  | nil : RpL [] []
  | cons {x : V} {d : D} {xs : List V} {ds : List D} : Rp x d → RpL xs ds → RpL (x :: xs) (d :: ds)
end
/-- tuples stay, and what is read only -/
structure TExt (H H' : Hp) : Prop where
  tup : ∀ a xs, SqT K H a xs → SqT K H' a xs
  frz : ∀ a o u, H a = some (.frz o u) → H' a = some (.frz o u)
end
section
variable {K : PySem.W.Frag} {H H' H1 H2 : Hp}
theorem TExt.refl : TExt K H H := ⟨fun _ _ h => h, fun _ _ _ h => h⟩
theorem TExt.trans (a : TExt K H H1) (b : TExt K H1 H2) : TExt K H H2 := ⟨fun p xs h => b.tup p xs (a.tup p xs h), fun p o u h => b.frz p o u (a.frz p o u h)⟩
mutual
theorem Rp.mono (e : TExt K H H') : ∀ {v : V} {d : D}, Rp K H v d → Rp K H' v d
  | _, _, .non => .non
  | _, _, .bl b => .bl b
  | _, _, .int b => .int b
  | _, _, .str b => .str b
  | _, _, .ref b => .ref b
  | _, _, .ty b => .ty b
  | _, _, .tup h l => .tup (e.tup _ _ h) (RpL.mono e l)
theorem RpL.mono (e : TExt K H H') : ∀ {v : List V} {d : List D}, RpL K H v d → RpL K H' v d
  | _, _, .nil => .nil
  | _, _, .cons h l => .cons (Rp.mono e h) (RpL.mono e l)
end
/-- writing at a place that is no tuple's -/
def NoTup (o : Option HO) : Prop := match o with
  | some (.tup _) => False
  | some (.frz _ _) => False
  | _ => True
theorem TExt.upd {p : Addr} {o : HO} (h : NoTup (H p)) : TExt K H (upd H p o) := by
  refine ⟨fun a xs hs => ?_, fun a o' u hs => ?_⟩
  rotate_left
  · rw [upd_ne]
    · exact hs
    · rintro rfl; rw [hs] at h; exact h
  rcases hs with (hs | ⟨q, hs⟩) | hs
  · refine .inl (.inl ?_)
    rw [upd_ne]
    · exact hs
    · rintro rfl; rw [hs] at h; exact h
  · refine .inl (.inr ⟨q, ?_⟩)
    rw [upd_ne]
    · exact hs
    · rintro rfl; rw [hs] at h; exact h
  · exact .inr hs
theorem TExt.new {p : Addr} {o : HO} (h : H p = none) : TExt K H (L2.upd H p o) := TExt.upd (by rw [h]; trivial)

theorem RpL.length : ∀ {xs : List V} {ds : List D}, RpL K H xs ds → xs.length = ds.length
  | _, _, .nil => rfl
  | _, _, .cons _ l => by simp [RpL.length l]
theorem RpL.append : ∀ {xs ys : List V} {ds es : List D}, RpL K H xs ds → RpL K H ys es → RpL K H (xs ++ ys) (ds ++ es)
  | _, _, _, _, .nil, m => m
  | _, _, _, _, .cons r l, m => .cons r (RpL.append l m)
theorem RpL.take : ∀ {xs : List V} {ds : List D} (n : Nat), RpL K H xs ds → RpL K H (xs.take n) (ds.take n)
  | _, _, 0, _ => by simpa using RpL.nil
  | _, _, _ + 1, .nil => .nil
  | _, _, n + 1, .cons r l => .cons r (RpL.take n l)
theorem RpL.drop : ∀ {xs : List V} {ds : List D} (n : Nat), RpL K H xs ds → RpL K H (xs.drop n) (ds.drop n)
  | _, _, 0, h => by simpa using h
  | _, _, _ + 1, .nil => .nil
  | _, _, n + 1, .cons _ l => RpL.drop n l
theorem RpL.get : ∀ {xs : List V} {ds : List D} {i : Nat} {d : D}, RpL K H xs ds → ds[i]? = some d → ∃ x, xs[i]? = some x ∧ Rp K H x d
  | _, _, _, _, .nil, e => by simp at e
  | _, _, 0, _, .cons r _, e => by simp at e; subst e; exact ⟨_, rfl, r⟩
  | _, _, i + 1, d, .cons _ l, e => by
    obtain ⟨x, h1, h2⟩ := RpL.get (i := i) (d := d) l (by simpa using e)
    exact ⟨x, by simpa using h1, h2⟩
theorem RpL.set {x : V} {d : D} (r : Rp K H x d) : ∀ {xs : List V} {ds : List D} (i : Nat), RpL K H xs ds → RpL K H (xs.set i x) (ds.set i d)
  | _, _, _, .nil => .nil
  | _, _, 0, .cons _ l => .cons r l
  | _, _, i + 1, .cons q l => .cons q (RpL.set r i l)
theorem RpL.reverse {xs : List V} {ds : List D} (h : RpL K H xs ds) : RpL K H xs.reverse ds.reverse := by
  induction xs generalizing ds with
  | nil => cases h; exact .nil
  | cons x xs ih =>
    cases h with
    | cons r l => rw [List.reverse_cons, List.reverse_cons]; exact (ih l).append (.cons r .nil)
theorem RpL.dropLast : ∀ {xs : List V} {ds : List D}, RpL K H xs ds → RpL K H xs.dropLast ds.dropLast
  | _, _, .nil => .nil
  | _, _, .cons _ .nil => .nil
  | _, _, .cons r (.cons q l) => .cons r (RpL.dropLast (.cons q l))
theorem RpL.rep {xs : List V} {ds : List D} (h : RpL K H xs ds) : ∀ k : Nat, RpL K H (List.replicate k xs).flatten (List.replicate k ds).flatten
  | 0 => .nil
  | k + 1 => by rw [List.replicate_succ, List.replicate_succ, List.flatten_cons, List.flatten_cons]; exact h.append (RpL.rep h k)
theorem RpL.isEmpty {xs : List V} {ds : List D} (h : RpL K H xs ds) : xs.isEmpty = ds.isEmpty := by
  cases h <;> rfl
theorem RpL.nil_of {xs : List V} (h : RpL K H xs []) : xs = [] := by cases h; rfl
theorem RpL.ints : ∀ {xs : List V} {ns : List Int}, RpL K H xs (ns.map D.int) → xs = ns.map V.int
  | _, [], .nil => rfl
  | _, n :: ns, .cons (.int _) l => by rw [RpL.ints l]; rfl
theorem RpL.strs : ∀ {xs : List V} {ns : List Str}, RpL K H xs (ns.map D.str) → xs = ns.map V.str
  | _, [], .nil => rfl
  | _, n :: ns, .cons (.str _) l => by rw [RpL.strs l]; rfl
theorem RpL.bls : ∀ {xs : List V} {ns : List Bool}, RpL K H xs (ns.map D.bl) → xs = ns.map V.bl
  | _, [], .nil => rfl
  | _, n :: ns, .cons (.bl _) l => by rw [RpL.bls l]; rfl
theorem RpL.ofInts : ∀ {ns : List Int}, RpL K H (ns.map V.int) (ns.map D.int)
  | [] => .nil
  | n :: ns => .cons (.int n) RpL.ofInts
theorem RpL.ofStrs : ∀ {ns : List Str}, RpL K H (ns.map V.str) (ns.map D.str)
  | [] => .nil
  | n :: ns => .cons (.str n) RpL.ofStrs
end

/-! ### the mutable part -/
inductive MO where
  /-- a list -/
  | lst (xs : List D)
  /-- a list that is read only -/
  | rol (xs : List D)
  /-- a dict with keys that are ints or texts -/
  | dk (kvs : List (Key × D))
  /-- an instance of the class at C -/
  | ins (C : Addr) (fs : List (Str × D))
  /-- the attributes of an exception -/
  | xd (fs : List (Str × D))
  /-- a dict that is read only, while it is walked -/
  | rdk (kvs : List (Key × D))
abbrev Mp := Addr → Option MO
def put (M : Mp) (a : Addr) (o : MO) : Mp := fun b => if b = a then some o else M b
theorem put_same {M : Mp} {a : Addr} {o : MO} : put M a o a = some o := by unfold put; rw [if_pos rfl]
theorem put_ne {M : Mp} {a b : Addr} {o : MO} (h : b ≠ a) : put M a o b = M b := by unfold put; rw [if_neg h]
theorem put_put {M : Mp} {a : Addr} {o u : MO} : put (put M a o) a u = put M a u := by
  funext b; unfold put; split <;> rfl
def KD (K : PySem.W.Frag) (H : Hp) : List (Key × V) → List (Key × D) → Prop
  | [], [] => True
  | p :: ps, q :: qs => p.1 = q.1 ∧ Rp K H p.2 q.2 ∧ KD K H ps qs
  | _, _ => False
def FD (K : PySem.W.Frag) (H : Hp) : List (Str × V) → List (Str × D) → Prop
  | [], [] => True
  | p :: ps, q :: qs => p.1 = q.1 ∧ Rp K H p.2 q.2 ∧ FD K H ps qs
  | _, _ => False
theorem KD.mono {K : PySem.W.Frag} {H H' : Hp} (e : TExt K H H') : ∀ {ps : List (Key × V)} {qs : List (Key × D)}, KD K H ps qs → KD K H' ps qs
  | [], [], h => h
  | p :: ps, q :: qs, h => ⟨h.1, h.2.1.mono e, KD.mono e h.2.2⟩
  | [], _ :: _, h => h.elim
  | _ :: _, [], h => h.elim
theorem FD.mono {K : PySem.W.Frag} {H H' : Hp} (e : TExt K H H') : ∀ {ps : List (Str × V)} {qs : List (Str × D)}, FD K H ps qs → FD K H' ps qs
  | [], [], h => h
  | p :: ps, q :: qs, h => ⟨h.1, h.2.1.mono e, FD.mono e h.2.2⟩
  | [], _ :: _, h => h.elim
  | _ :: _, [], h => h.elim
def MR (K : PySem.W.Frag) (H : Hp) (a : Addr) : MO → Prop
  | .lst ds => ∃ xs, H a = some (.lst xs) ∧ RpL K H xs ds
  | .rol ds => ∃ o xs, H a = some (.frz o (.lst xs)) ∧ RpL K H xs ds
  | .dk kvs => ∃ vs, H a = some (.dK vs) ∧ KD K H vs kvs
  | .ins C fs => ∃ dx vs, H a = some (.ins C dx vs) ∧ FD K H vs fs
  | .xd fs => ∃ vs, H a = some (.xd vs) ∧ FD K H vs fs
  | .rdk kvs => ∃ o vs, H a = some (.frz o (.dK vs)) ∧ KD K H vs kvs
def HR (K : PySem.W.Frag) (H : Hp) (M : Mp) : Prop := ∀ a o, M a = some o → MR K H a o
def Sub (M M' : Mp) : Prop := ∀ a o, M a = some o → M' a = some o
theorem Sub.refl {M : Mp} : Sub M M := fun _ _ h => h
theorem Sub.trans {M1 M2 M3 : Mp} (a : Sub M1 M2) (b : Sub M2 M3) : Sub M1 M3 := fun p o h => b p o (a p o h)
theorem Sub.none {M M' : Mp} (s : Sub M M') {p : Addr} (h : M' p = .none) : M p = .none := by
  cases e : M p with
  | none => rfl
  | some o => rw [s p o e] at h; cases h
theorem Sub.put {M M' : Mp} {p : Addr} {o : MO} (s : Sub M M') (h : M' p = .none) : Sub M (DL.put M' p o) := fun a u e => by
  have e' := s a u e
  rw [put_ne]
  · exact e'
  · rintro rfl; rw [e'] at h; cases h
theorem Sub.put2 {M M' : Mp} {p : Addr} {o : MO} (s : Sub M M') (h : M p = .none) : Sub M (DL.put M' p o) := fun a u e => by
  have e' := s a u e
  rw [put_ne]
  · exact e'
  · rintro rfl; rw [e] at h; cases h
theorem Sub.both {M M' : Mp} {p : Addr} {o : MO} (s : Sub M M') : Sub (DL.put M p o) (DL.put M' p o) := fun a u e => by
  by_cases c : a = p
  · subst c; rw [put_same] at e ⊢; exact e
  · rw [put_ne c] at e ⊢; exact s a u e
theorem HR.sub {K : PySem.W.Frag} {H : Hp} {M M' : Mp} (h : HR K H M') (s : Sub M M') : HR K H M := fun a o e => h a o (s a o e)
theorem HR.free {K : PySem.W.Frag} {H : Hp} {M : Mp} (h : HR K H M) {p : Addr} (hp : H p = none) : M p = none := by
  cases e : M p with
  | none => rfl
  | some o =>
    have q := h p o e
    cases o with
    | lst ds => obtain ⟨_, q, _⟩ := q; rw [hp] at q; cases q
    | rol ds => obtain ⟨_, _, q, _⟩ := q; rw [hp] at q; cases q
    | dk ds => obtain ⟨_, q, _⟩ := q; rw [hp] at q; cases q
    | ins C ds => obtain ⟨_, _, q, _⟩ := q; rw [hp] at q; cases q
    | xd ds => obtain ⟨_, q, _⟩ := q; rw [hp] at q; cases q
    | rdk ds => obtain ⟨_, _, q, _⟩ := q; rw [hp] at q; cases q
theorem MR.away {K : PySem.W.Frag} {H : Hp} {a p : Addr} {o : MO} {u : HO} (h : MR K H a o) (e : TExt K H (upd H p u)) (ne : a ≠ p) : MR K (upd H p u) a o := by
  cases o with
  | lst ds => obtain ⟨xs, q, r⟩ := h; exact ⟨xs, (upd_ne ne).trans q, r.mono e⟩
  | rol ds => obtain ⟨o, xs, q, r⟩ := h; exact ⟨o, xs, (upd_ne ne).trans q, r.mono e⟩
  | dk ds => obtain ⟨xs, q, r⟩ := h; exact ⟨xs, (upd_ne ne).trans q, r.mono e⟩
  | ins C ds => obtain ⟨dx, xs, q, r⟩ := h; exact ⟨dx, xs, (upd_ne ne).trans q, r.mono e⟩
  | xd ds => obtain ⟨xs, q, r⟩ := h; exact ⟨xs, (upd_ne ne).trans q, r.mono e⟩
  | rdk ds => obtain ⟨o, xs, q, r⟩ := h; exact ⟨o, xs, (upd_ne ne).trans q, r.mono e⟩
theorem HR.fresh {K : PySem.W.Frag} {H : Hp} {M : Mp} {p : Addr} {u : HO} (h : HR K H M) (hp : H p = none) : HR K (upd H p u) M := fun a o e =>
  (h a o e).away (.new hp) fun z => by subst z; rw [h.free hp] at e; cases e
theorem HR.made {K : PySem.W.Frag} {H : Hp} {M : Mp} {p : Addr} {u : HO} {o : MO} (h : HR K H M) (hp : NoTup (H p)) (n : MR K (upd H p u) p o) : HR K (upd H p u) (DL.put M p o) := fun a q e => by
  by_cases c : a = p
  · subst c; rw [put_same] at e; cases e; exact n
  · rw [put_ne c] at e; exact (h a q e).away (.upd hp) c
theorem noTup_none {H : Hp} {p : Addr} (h : H p = none) : NoTup (H p) := by rw [h]; trivial
theorem noTup_lst {H : Hp} {p : Addr} {xs : List V} (h : H p = some (.lst xs)) : NoTup (H p) := by rw [h]; trivial
theorem noTup_dK {H : Hp} {p : Addr} {xs : List (Key × V)} (h : H p = some (.dK xs)) : NoTup (H p) := by rw [h]; trivial
theorem noTup_ins {H : Hp} {p C dx : Addr} {xs : List (Str × V)} (h : H p = some (.ins C dx xs)) : NoTup (H p) := by rw [h]; trivial

/-! ### readings over plain data -/
abbrev Sl := List (Option D)
/-- an exception: its class, the attributes of its own -/
structure DX where
  cls : Value
  d : Option Addr
  fs : List (Str × D)
abbrev DK := D → Mp → Prop
abbrev EK := DX → Mp → Prop
abbrev DE := Sl → Mp → DK → EK → Prop
abbrev DT := Sl → Mp → (Bool → Mp → Prop) → EK → Prop
abbrev DA := Sl → Mp → (List D → Mp → Prop) → EK → Prop
structure DN where
  nx : Sl → Mp → Prop
  rt : DK
  bk : Sl → Mp → Prop := fun _ _ => False
  ct : Sl → Mp → Prop := fun _ _ => False
  ex : DX → Sl → Mp → Prop := fun _ _ _ => False
abbrev DS := DN → Sl → Mp → Prop
/-- what is wanted of an exception; tuples of the heap h0 still stand -/
structure DW where
  h0 : Hp
  w : DX → Sl → Mp → Prop
/-- the slots -/
structure RS (K : PySem.W.Frag) (H0 H : Hp) (σ : St) (τ : Sl) : Prop where
  ext : TExt K H0 H
  len : τ.length ≤ σ.length
  at_ : ∀ (i : Nat) (d : D), τ[i]? = some (some d) → ∃ v, σ[i]? = some (some v) ∧ Rp K H v d
section
variable (K : PySem.W.Frag)
def XR (H : Hp) (cls : Value) (d : Option Addr) (x : DX) : Prop := cls = x.cls ∧ d = x.d ∧ ∀ dx, d = some dx → ∃ vs, H dx = some (.xd vs) ∧ FD K H vs x.fs
/-- what the reading of an expression says of the heap's reading -/
def KC (H : Hp) (Qd : DK) (Q : VK) : Prop := ∀ d M' v H', Qd d M' → TExt K H H' → Rp K H' v d → HR K H' M' → Q v H'
def liftE (W : DW) (t : DE) : TE := fun σ H Q => ∃ τ M Qd Ed, RS K W.h0 H σ τ ∧ HR K H M ∧ t τ M Qd Ed ∧ (∀ x M', Ed x M' → W.w x τ M') ∧ KC K H Qd Q
def liftT (W : DW) (t : DT) : TT := fun σ H Q => ∃ τ M Qd Ed, RS K W.h0 H σ τ ∧ HR K H M ∧ t τ M Qd Ed ∧ (∀ x M', Ed x M' → W.w x τ M') ∧ (∀ b M' H', Qd b M' → TExt K H H' → HR K H' M' → Q b H')
def liftA (W : DW) (t : DA) : TA := fun σ H Q => ∃ τ M Qd Ed, RS K W.h0 H σ τ ∧ HR K H M ∧ t τ M Qd Ed ∧ (∀ x M', Ed x M' → W.w x τ M') ∧ (∀ ds M' vs H', Qd ds M' → TExt K H H' → RpL K H' vs ds → HR K H' M' → Q vs H')
def liftW (W : DW) : WX := fun cls d σ H => ∃ x τ M, RS K W.h0 H σ τ ∧ HR K H M ∧ XR K H cls d x ∧ W.w x τ M
structure NC (H0 H : Hp) (Dd : DN) (De : Ends) : Prop where
  nx : ∀ τ M σ H', Dd.nx τ M → TExt K H H' → RS K H0 H' σ τ → HR K H' M → De.nx σ H'
  rt : ∀ d M v H', Dd.rt d M → TExt K H H' → Rp K H' v d → HR K H' M → De.rt v H'
  bk : ∀ τ M σ H', Dd.bk τ M → TExt K H H' → RS K H0 H' σ τ → HR K H' M → De.bk σ H'
  ct : ∀ τ M σ H', Dd.ct τ M → TExt K H H' → RS K H0 H' σ τ → HR K H' M → De.ct σ H'
def liftS (W : DW) (t : DS) : TS := fun De σ H => ∃ τ M Dd, RS K W.h0 H σ τ ∧ HR K H M ∧ t Dd τ M ∧ (∀ x τ' M', Dd.ex x τ' M' → W.w x τ' M') ∧ NC K W.h0 H Dd De
end
section
variable {K : PySem.W.Frag} {H0 H H' : Hp} {σ : St} {τ : Sl}
theorem RS.mono (e : TExt K H H') (h : RS K H0 H σ τ) : RS K H0 H' σ τ := ⟨h.ext.trans e, h.len, fun i d q => by
  obtain ⟨v, a, b⟩ := h.at_ i d q
  exact ⟨v, a, b.mono e⟩⟩
theorem NC.mono {Dd : DN} {De : Ends} (e : TExt K H H') (h : NC K H0 H Dd De) : NC K H0 H' Dd De :=
  ⟨fun τ M σ H2 q x => h.nx τ M σ H2 q (e.trans x), fun d M v H2 q x => h.rt d M v H2 q (e.trans x), fun τ M σ H2 q x => h.bk τ M σ H2 q (e.trans x), fun τ M σ H2 q x => h.ct τ M σ H2 q (e.trans x)⟩
theorem KC.mono {Qd : DK} {Q : VK} (e : TExt K H H') (h : KC K H Qd Q) : KC K H' Qd Q := fun d M v H2 q x => h d M v H2 q (e.trans x)
theorem RS.set {i : Nat} {v : V} {d : D} (h : RS K H0 H σ τ) (r : Rp K H v d) : RS K H0 H (σ.set i (some v)) (τ.set i (some d)) := ⟨h.ext, by simpa using h.len, fun j e q => by
  by_cases c : i = j
  · subst c
    by_cases hi : i < τ.length
    · rw [List.getElem?_set_self hi] at q
      cases q
      exact ⟨v, List.getElem?_set_self (Nat.lt_of_lt_of_le hi h.len), r⟩
    · rw [List.getElem?_eq_none (by simpa using hi)] at q
      cases q
  · rw [List.getElem?_set_ne c] at q ⊢
    exact h.at_ j e q⟩
end
section
variable (X : Cx) (W : DW)
structure PD (e : Expr) (t : DE) : Prop where
  run : PE X e (liftE X.K W t)
structure PTD (e : Expr) (t : DT) : Prop where
  run : PT X e (liftT X.K W t)
structure PWD (e : Expr) (t : DT) : Prop where
  run : PW X e (liftT X.K W t)
structure PAD (es : List Expr) (t : DA) : Prop where
  run : PA X es (liftA X.K W t)
structure PSD (st : Stmt) (t : DS) : Prop where
  run : PS X st (liftS X.K W t)
structure PSsD (st : List Stmt) (t : DS) : Prop where
  run : PSs X st (liftS X.K W t)
end
section
variable {X : Cx}
theorem PEimp {e : Expr} {t t' : TE} (h : PE X e t) (i : ∀ σ H Q, t' σ H Q → t σ H Q) : PE X e t' := ⟨fun pins s σ H Q I q => h.run pins s σ H Q I (i σ H Q q)⟩
theorem PTimp {e : Expr} {t t' : TT} (h : PT X e t) (i : ∀ σ H Q, t' σ H Q → t σ H Q) : PT X e t' := ⟨fun pins s σ H Q I q => h.run pins s σ H Q I (i σ H Q q)⟩
theorem PWimp {e : Expr} {t t' : TT} (h : PW X e t) (i : ∀ σ H Q, t' σ H Q → t σ H Q) : PW X e t' := ⟨fun wh pins s σ H Q I q => h.run wh pins s σ H Q I (i σ H Q q)⟩
theorem PAimp {es : List Expr} {t t' : TA} (h : PA X es t) (i : ∀ σ H Q, t' σ H Q → t σ H Q) : PA X es t' := ⟨fun pos pins s σ H Q I q => h.run pos pins s σ H Q I (i σ H Q q)⟩
theorem PSimp {e : Stmt} {t t' : TS} (h : PS X e t) (i : ∀ De σ H, t' De σ H → t De σ H) : PS X e t' := ⟨fun pins s σ H De I q => h.run pins s σ H De I (i De σ H q)⟩
theorem PSsimp {e : List Stmt} {t t' : TS} (h : PSs X e t) (i : ∀ De σ H, t' De σ H → t De σ H) : PSs X e t' := ⟨fun pins s σ H De I q => h.run pins s σ H De I (i De σ H q)⟩
end
end DL

set_option maxHeartbeats 4000000
namespace DL
open PySem L2
section
variable {X : Cx} {W : DW}

/-! ### names, constants -/
def slot (τ : Sl) (i : Nat) : Option D := (τ[i]?).join
theorem slot_eq {τ : Sl} {i : Nat} {d : D} (h : slot τ i = some d) : τ[i]? = some (some d) := by
  unfold slot at h
  cases e : τ[i]? with
  | none => rw [e] at h; cases h
  | some o => rw [e] at h; exact congrArg some h
def dVar (i : Nat) : DE := fun τ M Q _ => match slot τ i with | some d => Q d M | none => False
def dC (d : D) : DE := fun _ M Q _ => Q d M
theorem pd_var {i : Nat} {e : Expr} (h : PE X e (tVar i)) : PD X W e (dVar i) := ⟨PEimp h fun σ H Q ⟨τ, M, Qd, Ed, hs, hr, q, _, k⟩ => by
  unfold dVar at q
  split at q
  · rename_i d e
    obtain ⟨v, a, b⟩ := hs.at_ i d (slot_eq e)
    exact ⟨v, a, k d M v H q .refl b hr⟩
  · exact q.elim⟩
theorem pd_c {e : Expr} {v : V} {d : D} (h : PE X e (tC v)) (r : ∀ H, Rp X.K H v d) : PD X W e (dC d) := ⟨PEimp h fun σ H Q ⟨τ, M, Qd, Ed, hs, hr, q, _, k⟩ => k d M v H q .refl (r H) hr⟩
theorem pd_int {i j pos} : PD X W (.Constant (.int i) j pos) (dC (.int i)) := pd_c pe_int fun _ => .int i
theorem pd_bl {b j pos} : PD X W (.Constant (.bool b) j pos) (dC (.bl b)) := pd_c pe_bl fun _ => .bl b
theorem pd_non {j pos} : PD X W (.Constant .none j pos) (dC .non) := pd_c pe_non fun _ => .non
theorem pd_str {x j pos} : PD X W (.Constant (.str x) j pos) (dC (.str x)) := pd_c pe_str fun _ => .str x
/-- a slot by its place -/
theorem pdv (i : Nat) {x : Str} {pos : Pos} (hN : X.N[i]? = some x := by rfl) (hv : Vis X.env.scope x := by first | exact Or.inl rfl | exact Or.inr (Or.inl rfl) | exact Or.inr (Or.inr rfl)) (hd : (x == ("__debug__" : Str)) = false := by decide)
    (hcd : (x == ("__classdict__" : Str)) = false := by decide) : PD X W (.Name x pos) (dVar i) := pd_var (pe_var hN hv hd hcd)

/-! ### operators by values -/
abbrev DO := D → D → Mp → DK → Prop
def liftO (K : PySem.W.Frag) (g : DO) : R2 := fun x y H Q => ∃ dx dy M Qd, g dx dy M Qd ∧ Rp K H x dx ∧ Rp K H y dy ∧ HR K H M ∧ KC K H Qd Q
def dOp (g : DO) (ta tb : DE) : DE := fun τ M Q E => ta τ M (fun x M1 => tb τ M1 (fun y M2 => g x y M2 Q) E) E
theorem dOp_lift {g : DO} {ta tb : DE} {σ : St} {H : Hp} {Q : VK} (h : liftE X.K W (dOp g ta tb) σ H Q) : tOp (liftO X.K g) (liftE X.K W ta) (liftE X.K W tb) σ H Q := by
  obtain ⟨τ, M, Qd, Ed, hs, hr, q, we, k⟩ := h
  refine ⟨τ, M, _, Ed, hs, hr, q, we, fun x M1 v H1 q1 e1 r1 h1 => ⟨τ, M1, _, Ed, hs.mono e1, h1, q1, we, fun y M2 u H2 q2 e2 r2 h2 => ?_⟩⟩
  exact ⟨x, y, M2, Qd, q2, r1.mono e2, r2, h2, k.mono (e1.trans e2)⟩
theorem pd_op {op : Operator} {g : DO} {a b : Expr} {ta tb : DE} {pos : Pos} (ho : OpR X (binaryOp op) (liftO X.K g)) (ha : PD X W a ta) (hb : PD X W b tb) : PD X W (.BinOp a op b pos) (dOp g ta tb) :=
  ⟨PEimp (pe_op ho ha.run hb.run) fun _ _ _ h => dOp_lift h⟩
theorem OpRimp {f : Value → Value → Sem Value} {r r' : R2} (h : OpR X f r) (i : ∀ x y H Q, r' x y H Q → r x y H Q) : OpR X f r' := fun pins s σ H x y v u Q I rx ry q => h pins s σ H x y v u Q I rx ry (i x y H Q q)
/-- an operator whose reading is one of two -/
theorem liftO_or {f : Value → Value → Sem Value} {g g1 g2 : DO} (h1 : OpR X f (liftO X.K g1)) (h2 : OpR X f (liftO X.K g2)) (h : ∀ x y M Q, g x y M Q → g1 x y M Q ∨ g2 x y M Q) : OpR X f (liftO X.K g) :=
  OpRimp (h1.or h2) fun x y H Q ⟨dx, dy, M, Qd, q, a, b, c, k⟩ => (h dx dy M Qd q).elim (fun z => .inl ⟨dx, dy, M, Qd, z, a, b, c, k⟩) fun z => .inr ⟨dx, dy, M, Qd, z, a, b, c, k⟩
theorem Rp.toInt {K : PySem.W.Frag} {H : Hp} {v : V} {i : Int} (h : Rp K H v (.int i)) : v = .int i := by cases h; rfl
theorem Rp.toStr {K : PySem.W.Frag} {H : Hp} {v : V} {i : Str} (h : Rp K H v (.str i)) : v = .str i := by cases h; rfl
theorem Rp.toBl {K : PySem.W.Frag} {H : Hp} {v : V} {i : Bool} (h : Rp K H v (.bl i)) : v = .bl i := by cases h; rfl
theorem Rp.toRef {K : PySem.W.Frag} {H : Hp} {v : V} {i : Addr} (h : Rp K H v (.ref i)) : v = .ref i := by cases h; rfl
theorem Rp.toTy {K : PySem.W.Frag} {H : Hp} {v : V} {i : String} (h : Rp K H v (.ty i)) : v = .ty i := by cases h; rfl
theorem Rp.toNon {K : PySem.W.Frag} {H : Hp} {v : V} (h : Rp K H v .non) : v = .non := by cases h; rfl
theorem Rp.toTup {K : PySem.W.Frag} {H : Hp} {v : V} {ds : List D} (h : Rp K H v (.tup ds)) : ∃ a xs, v = .ref a ∧ SqT K H a xs ∧ RpL K H xs ds := by
  cases h with
  | tup s l => exact ⟨_, _, rfl, s, l⟩
theorem HR.lst {K : PySem.W.Frag} {H : Hp} {M : Mp} {a : Addr} {ds : List D} (h : HR K H M) (e : M a = some (.lst ds)) : ∃ xs, H a = some (.lst xs) ∧ RpL K H xs ds := h a _ e
theorem HR.dk {K : PySem.W.Frag} {H : Hp} {M : Mp} {a : Addr} {ds : List (Key × D)} (h : HR K H M) (e : M a = some (.dk ds)) : ∃ xs, H a = some (.dK xs) ∧ KD K H xs ds := h a _ e
theorem HR.ins {K : PySem.W.Frag} {H : Hp} {M : Mp} {a C : Addr} {ds : List (Str × D)} (h : HR K H M) (e : M a = some (.ins C ds)) : ∃ dx xs, H a = some (.ins C dx xs) ∧ FD K H xs ds := h a _ e
/-- a new tuple -/
theorem KC.tup {K : PySem.W.Frag} {H : Hp} {M : Mp} {Qd : DK} {Q : VK} {xs : List V} {ds : List D} {p : Addr} (k : KC K H Qd Q) (hr : HR K H M) (l : RpL K H xs ds) (hp : H p = none) (q : Qd (.tup ds) M) : Q (.ref p) (upd H p (.tup xs)) :=
  k _ M _ _ q (.new hp) (.tup (.of upd_same) (l.mono (.new hp))) (hr.fresh hp)
/-- a new list -/
theorem KC.lst {K : PySem.W.Frag} {H : Hp} {M : Mp} {Qd : DK} {Q : VK} {xs : List V} {ds : List D} {p : Addr} (k : KC K H Qd Q) (hr : HR K H M) (l : RpL K H xs ds) (hp : H p = none) (q : ∀ p, M p = none → Qd (.ref p) (put M p (.lst ds))) : Q (.ref p) (upd H p (.lst xs)) :=
  k _ _ _ _ (q p (hr.free hp)) (.new hp) (.ref p) (hr.made (noTup_none hp) ⟨xs, upd_same, l.mono (.new hp)⟩)

/-- two ints -/
def oI (C : Int → Int → Prop) (f : Int → Int → D) : DO := fun x y M Q => match x, y with | .int i, .int j => C i j ∧ Q (f i j) M | _, _ => False
def oI0 (f : Int → Int → D) : DO := fun x y M Q => match x, y with | .int i, .int j => Q (f i j) M | _, _ => False
theorem oI_of {f : Value → Value → Sem Value} {C : Int → Int → Prop} {g : Int → Int → V} {gd : Int → Int → D} (h : OpR X f (rI C g)) (hg : ∀ i j H, Rp X.K H (g i j) (gd i j)) : OpR X f (liftO X.K (oI C gd)) :=
  OpRimp h fun x y H Q ⟨dx, dy, M, Qd, q, a, b, c, k⟩ => by
    unfold oI at q
    split at q
    · rename_i i j
      exact ⟨i, j, a.toInt, b.toInt, q.1, k _ M _ H q.2 .refl (hg i j H) c⟩
    · exact q.elim
theorem oI0_of {f : Value → Value → Sem Value} {g : Int → Int → V} {gd : Int → Int → D} (h : OpR X f (rI0 g)) (hg : ∀ i j H, Rp X.K H (g i j) (gd i j)) : OpR X f (liftO X.K (oI0 gd)) :=
  OpRimp h fun x y H Q ⟨dx, dy, M, Qd, q, a, b, c, k⟩ => by
    unfold oI0 at q
    split at q
    · rename_i i j
      exact ⟨i, j, a.toInt, b.toInt, k _ M _ H q .refl (hg i j H) c⟩
    · exact q.elim
/-- + -/
def addD : DO := fun x y M Q => match x, y with
  | .int i, .int j => Q (.int (i + j)) M
  | .str i, .str j => i.length + j.length ≤ sizeLine ∧ Q (.str (i ++ j)) M
  | .tup xs, .tup ys => xs.length + ys.length ≤ sizeLine ∧ Q (.tup (xs ++ ys)) M
  | .ref a, .ref b => match M a, M b with
    | some (.lst xs), some (.lst ys) => xs.length + ys.length ≤ sizeLine ∧ ∀ p, M p = none → Q (.ref p) (put M p (.lst (xs ++ ys)))
    | _, _ => False
  | _, _ => False
theorem op_addD : OpR X (binaryOp .Add) (liftO X.K addD) :=
  OpRimp ((op_add (X := X)).or ((op_add_str (X := X)).or ((op_catA (X := X)).or (op_cat (X := X))))) fun x y H Q ⟨dx, dy, M, Qd, q, a, b, c, k⟩ => by
    unfold addD at q
    split at q
    · exact .inl ⟨_, _, a.toInt, b.toInt, k _ M _ H q .refl (.int _) c⟩
    · exact .inr (.inl ⟨_, _, a.toStr, b.toStr, q.1, k _ M _ H q.2 .refl (.str _) c⟩)
    · rename_i xs ys
      obtain ⟨pa, va, rfl, sa, la⟩ := a.toTup
      obtain ⟨pb, vb, rfl, sb, lb⟩ := b.toTup
      refine .inr (.inr (.inl ⟨pa, pb, va, vb, rfl, rfl, sa, sb, by rw [la.length, lb.length]; exact q.1, fun e => ?_, fun _ e => ?_, fun _ _ p hp => k.tup c (la.append lb) hp q.2⟩))
      · subst e
        have e' : xs = [] := by cases la; rfl
        subst e'
        exact k _ M _ H q.2 .refl (.tup sb (by simpa using lb)) c
      · subst e
        have e' : ys = [] := by cases lb; rfl
        subst e'
        exact k _ M _ H q.2 .refl (.tup sa (by simpa using la)) c
    · rename_i pa pb
      split at q
      · rename_i xs ys e1 e2
        obtain ⟨va, ha, la⟩ := c.lst e1
        obtain ⟨vb, hb, lb⟩ := c.lst e2
        exact .inr (.inr (.inr ⟨pa, pb, va, vb, a.toRef, b.toRef, ha, hb, by rw [la.length, lb.length]; exact q.1, fun p hp => k.lst c (la.append lb) hp q.2⟩))
      · exact q.elim
    · exact q.elim
theorem op_subD : OpR X (binaryOp .Sub) (liftO X.K (oI0 fun i j => .int (i - j))) := oI0_of op_sub fun _ _ _ => .int _
theorem op_fdivD : OpR X (binaryOp .FloorDiv) (liftO X.K (oI CDivW fun i j => .int (i / j))) := oI_of op_fdivW fun _ _ _ => .int _
theorem op_modD : OpR X (binaryOp .Mod) (liftO X.K (oI (fun _ j => 0 < j) fun i j => .int (i % j))) := oI_of op_mod fun _ _ _ => .int _
theorem op_powD : OpR X (binaryOp .Pow) (liftO X.K (oI CPow fun i j => .int (i ^ j.toNat))) := oI_of op_pow fun _ _ _ => .int _
end
end DL

set_option maxHeartbeats 4000000
namespace DL
open PySem L2

/-! ### plain data as the library's data; Python's == -/
mutual
def toP : D → PyData
  | .non => .none
  | .bl b => .bool b
  | .int i => .int i
  | .str x => .str x
  | .tup xs => .tuple (toPL xs)
  | .ref _ => .none
  | .ty _ => .none
def toPL : List D → List PyData
  | [] => []
  | d :: ds => toP d :: toPL ds
end
mutual
/-- no addresses, no classes; signs as they may be -/
def ok : D → Bool
  | .str x => x.cps.all (· < 0x110000)
  | .tup xs => okL xs
  | .ref _ => false
  | .ty _ => false
  | .non => true
  | .bl _ => true
  | .int _ => true
def okL : List D → Bool
  | [] => true
  | d :: ds => ok d && okL ds
end
mutual
def dep : D → Nat
  | .tup xs => depL xs + 1
  | .non => 0
  | .bl _ => 0
  | .int _ => 0
  | .str _ => 0
  | .ref _ => 0
  | .ty _ => 0
def depL : List D → Nat
  | [] => 0
  | d :: ds => max (dep d) (depL ds)
end
mutual
def eqb : D → D → Bool
  | .non, y => match y with | .non => true | _ => false
  | .bl a, y => match y with | .bl b => a == b | .int j => (if a then 1 else 0) == j | _ => false
  | .int i, y => match y with | .bl b => i == (if b then 1 else 0) | .int j => i == j | _ => false
  | .str a, y => match y with | .str b => a == b | _ => false
  | .tup xs, y => match y with | .tup ys => eqbL xs ys | _ => false
  | .ref _, _ => false
  | .ty _, _ => false
def eqbL : List D → List D → Bool
  | [], ys => match ys with | [] => true | _ => false
  | x :: xs, ys => match ys with | y :: ys => eqb x y && eqbL xs ys | _ => false
end
mutual
theorem eqv_toP : ∀ (x y : D), ok x = true → ok y = true → PyData.eqv (toP x) (toP y) = eqb x y
  | .non, y, h, k => by cases y <;> simp_all [toP, eqb, PyData.eqv, ok]
  | .bl _, y, h, k => by cases y <;> simp_all [toP, eqb, PyData.eqv, ok]
  | .int _, y, h, k => by cases y <;> simp_all [toP, eqb, PyData.eqv, ok]
  | .str _, y, h, k => by cases y <;> simp_all [toP, eqb, PyData.eqv, ok]
  | .ref _, y, h, k => by simp [ok] at h
  | .ty _, y, h, k => by simp [ok] at h
  | .tup xs, y, h, k => by
    cases y with
    | tup ys =>
      have q := eqvL_toP xs ys (by simpa [ok] using h) (by simpa [ok] using k)
      simpa [toP, eqb, PyData.eqv] using q
    | ref _ => simp [ok] at k
    | ty _ => simp [ok] at k
    | _ => simp [toP, eqb, PyData.eqv]
theorem eqvL_toP : ∀ (xs ys : List D), okL xs = true → okL ys = true → PyData.eqvAll (toPL xs) (toPL ys) = eqbL xs ys
  | [], [], _, _ => by simp [toPL, eqbL, PyData.eqvAll]
  | [], _ :: _, _, _ => by simp [toPL, eqbL, PyData.eqvAll]
  | _ :: _, [], _, _ => by simp [toPL, eqbL, PyData.eqvAll]
  | x :: xs, y :: ys, h, k => by
    have h' : ok x = true ∧ okL xs = true := by simpa [okL] using h
    have k' : ok y = true ∧ okL ys = true := by simpa [okL] using k
    simp [toPL, eqbL, PyData.eqvAll, eqv_toP x y h'.1 k'.1, eqvL_toP xs ys h'.2 k'.2]
end
mutual
theorem lay_toP : ∀ (x : D), ok x = true → (toP x).canLay0 = true
  | .non, h => by simp [toP, PyData.canLay0]
  | .bl _, h => by simp [toP, PyData.canLay0]
  | .int _, h => by simp [toP, PyData.canLay0]
  | .str _, h => by simpa [toP, PyData.canLay0, PyData.strOk, ok] using h
  | .ref _, h => by simp [ok] at h
  | .ty _, h => by simp [ok] at h
  | .tup xs, h => by
    have q := layL_toP xs (by simpa [ok] using h)
    simpa [toP, PyData.canLay0] using q
theorem layL_toP : ∀ (xs : List D), okL xs = true → PyData.canLayAll0 (toPL xs) = true
  | [], _ => by simp [toPL, PyData.canLayAll0]
  | x :: xs, h => by
    have h' : ok x = true ∧ okL xs = true := by simpa [okL] using h
    simp [toPL, PyData.canLayAll0, lay_toP x h'.1, layL_toP xs h'.2]
end
mutual
theorem dep_toP : ∀ (x : D), (toP x).depth = dep x
  | .non => by simp [toP, PyData.depth, dep]
  | .bl _ => by simp [toP, PyData.depth, dep]
  | .int _ => by simp [toP, PyData.depth, dep]
  | .str _ => by simp [toP, PyData.depth, dep]
  | .ref _ => by simp [toP, PyData.depth, dep]
  | .ty _ => by simp [toP, PyData.depth, dep]
  | .tup xs => by simp [toP, PyData.depth, dep, depL_toP xs]
theorem depL_toP : ∀ (xs : List D), PyData.depthAll (toPL xs) = depL xs
  | [] => by simp [toPL, PyData.depthAll, depL]
  | x :: xs => by simp [toPL, PyData.depthAll, depL, dep_toP x, depL_toP xs]
end
mutual
theorem dp_of {K : PySem.W.Frag} {H : Hp} : ∀ {v : V} {d : D}, Rp K H v d → ok d = true → Dp K H v (toP d)
  | _, _, .non, _ => by simpa [toP] using Dp.non
  | _, _, .bl b, _ => by simpa [toP] using Dp.bl b
  | _, _, .int b, _ => by simpa [toP] using Dp.int b
  | _, _, .str b, _ => by simpa [toP] using Dp.str b
  | _, _, .ref b, h => by simp [ok] at h
  | _, _, .ty b, h => by simp [ok] at h
  | _, _, .tup s l, h => by simpa [toP] using Dp.tup s (dpL_of l (by simpa [ok] using h))
theorem dpL_of {K : PySem.W.Frag} {H : Hp} : ∀ {v : List V} {d : List D}, RpL K H v d → okL d = true → DpAll K H v (toPL d)
  | _, _, .nil, _ => by simpa [toPL] using DpAll.nil
  | _, _, .cons r l, h => by
    rename_i d _ ds
    have h' : ok d = true ∧ okL ds = true := by simpa [okL] using h
    simpa [toPL] using DpAll.cons (dp_of r h'.1) (dpL_of l h'.2)
end
section
variable {X : Cx} {W : DW}
/-- what both sides of == are asked -/
def eqOk (x y : D) : Prop := ok x = true ∧ ok y = true ∧ min (dep x) (dep y) ≤ 200
def eqG (n : Bool) : DO := fun x y M Q => match x, y with
  | .int i, .int j => Q (.bl (n != decide (i = j))) M
  | .str i, .str j => Q (.bl (n != decide (i = j))) M
  | .ref a, .ref b => match M a, M b with
    | some (.lst xs), some (.lst ys) => okL xs = true ∧ okL ys = true ∧ min (depL xs) (depL ys) ≤ 199 ∧ Q (.bl (n != eqbL xs ys)) M
    | _, _ => False
  | x, y => eqOk x y ∧ Q (.bl (n != eqb x y)) M
abbrev eqD : DO := eqG false
abbrev neD : DO := eqG true
def rDeep (K : PySem.W.Frag) (n : Bool) : R2 := fun x y H Q => ∃ d e, Dp K H x d ∧ Dp K H y e ∧ d.canLay0 = true ∧ e.canLay0 = true ∧ min d.depth e.depth ≤ 200 ∧ Q (.bl (n != PyData.eqv d e)) H
theorem op_deepE (hu : X.A.units + 200 < cLine) : OpR X (compareOp .Eq) (rDeep X.K false) := by
  intro pins s σ H x y v u Q I rx ry ⟨d, e, hd, he, sd, se, dm, q⟩
  obtain ⟨as, r1⟩ := Dp.reads I d x v hd rx
  obtain ⟨bs, r2⟩ := Dp.reads I e y u he ry
  exact SeqAt.compareEq_reads r1 r2 sd se (by omega) ⟨.bl _, H, I, rfl, by simpa using q⟩
theorem op_deepN (hu : X.A.units + 200 < cLine) : OpR X (compareOp .NotEq) (rDeep X.K true) := by
  intro pins s σ H x y v u Q I rx ry ⟨d, e, hd, he, sd, se, dm, q⟩
  obtain ⟨as, r1⟩ := Dp.reads I d x v hd rx
  obtain ⟨bs, r2⟩ := Dp.reads I e y u he ry
  exact SeqAt.compareNe_reads r1 r2 sd se (by omega) ⟨.bl _, H, I, rfl, by simpa using q⟩
def rScal (n : Bool) : R2 := fun x y H Q => (∃ i j : Int, x = .int i ∧ y = .int j ∧ Q (.bl (n != decide (i = j))) H) ∨ (∃ i j : Str, x = .str i ∧ y = .str j ∧ Q (.bl (n != decide (i = j))) H)
theorem dInt {i j : Int} : decide (V.int i = V.int j) = decide (i = j) := by
  by_cases h : i = j
  · subst h; simp
  · simp [h]
theorem dStr {i j : Str} : decide (V.str i = V.str j) = decide (i = j) := by
  by_cases h : i = j
  · subst h; simp
  · simp [h]
theorem op_scalE : OpR X (compareOp .Eq) (rScal false) := OpRimp op_eq fun x y H Q h => by
  rcases h with ⟨i, j, rfl, rfl, q⟩ | ⟨i, j, rfl, rfl, q⟩
  · exact ⟨rfl, by rw [dInt]; simpa using q⟩
  · exact ⟨rfl, by rw [dStr]; simpa using q⟩
theorem op_scalN : OpR X (compareOp .NotEq) (rScal true) := OpRimp op_ne fun x y H Q h => by
  rcases h with ⟨i, j, rfl, rfl, q⟩ | ⟨i, j, rfl, rfl, q⟩
  · exact ⟨rfl, by rw [dInt]; simpa using q⟩
  · exact ⟨rfl, by rw [dStr]; simpa using q⟩
theorem eqG_of {f : Value → Value → Sem Value} {n : Bool} (h1 : OpR X f (rScal n)) (h2 : OpR X f (rDeep X.K n)) : OpR X f (liftO X.K (eqG n)) :=
  OpRimp (h1.or h2) fun x y H Q ⟨dx, dy, M, Qd, q, a, b, c, k⟩ => by
    unfold eqG at q
    split at q
    · exact .inl (.inl ⟨_, _, a.toInt, b.toInt, k _ M _ H q .refl (.bl _) c⟩)
    · exact .inl (.inr ⟨_, _, a.toStr, b.toStr, k _ M _ H q .refl (.bl _) c⟩)
    · rename_i pa pb
      split at q
      · rename_i xs ys e1 e2
        obtain ⟨va, ha, la⟩ := c.lst e1
        obtain ⟨vb, hb, lb⟩ := c.lst e2
        have ra := a.toRef
        have rb := b.toRef
        subst ra; subst rb
        refine .inr ⟨_, _, .lst (SqL.of ha) (dpL_of la q.1), .lst (SqL.of hb) (dpL_of lb q.2.1), by simpa [PyData.canLay0] using layL_toP _ q.1, by simpa [PyData.canLay0] using layL_toP _ q.2.1, ?_, ?_⟩
        · have := q.2.2.1
          simp only [PyData.depth, depL_toP]
          omega
        · refine k _ M _ H ?_ .refl (.bl _) c
          have := q.2.2.2
          rw [← eqvL_toP xs ys q.1 q.2.1] at this
          simpa [PyData.eqv] using this
      · exact q.elim
    · obtain ⟨⟨o1, o2, dm⟩, q⟩ := q
      refine .inr ⟨_, _, dp_of a o1, dp_of b o2, lay_toP _ o1, lay_toP _ o2, by rw [dep_toP, dep_toP]; exact dm, ?_⟩
      rw [eqv_toP _ _ o1 o2]
      exact k _ M _ H q .refl (.bl _) c
theorem op_eqG (hu : X.A.units + 200 < cLine) : OpR X (compareOp .Eq) (liftO X.K eqD) := eqG_of op_scalE (op_deepE hu)
theorem op_neG (hu : X.A.units + 200 < cLine) : OpR X (compareOp .NotEq) (liftO X.K neD) := eqG_of op_scalN (op_deepN hu)
theorem Room.u200 {k : Nat} {A : Around} (r : Room k A) : A.units + 200 < cLine := by have := r.un; omega

/-! ### < and the like, is -/
theorem op_ltD : OpR X (compareOp .Lt) (liftO X.K (oI0 fun i j => .bl (decide (i < j)))) := oI0_of op_lt fun _ _ _ => .bl _
theorem op_leD : OpR X (compareOp .LtE) (liftO X.K (oI0 fun i j => .bl (decide (i ≤ j)))) := oI0_of op_le fun _ _ _ => .bl _
theorem op_gtD : OpR X (compareOp .Gt) (liftO X.K (oI0 fun i j => .bl (decide (j < i)))) := oI0_of op_gt fun _ _ _ => .bl _
theorem op_geD : OpR X (compareOp .GtE) (liftO X.K (oI0 fun i j => .bl (decide (j ≤ i)))) := oI0_of op_ge fun _ _ _ => .bl _
def isNone : D → Bool
  | .non => true
  | _ => false
/-- is None; is of two bools -/
def isG (n : Bool) : DO := fun x y M Q => match y with
  | .non => Q (.bl (n != isNone x)) M
  | .bl b => match x with
    | .bl a => Q (.bl (n != decide (a = b))) M
    | _ => False
  | _ => False
theorem isNone_of {K : PySem.W.Frag} {H : Hp} {v : V} {d : D} (r : Rp K H v d) : decide (v = .non) = isNone d := by
  cases r <;> simp [isNone]
theorem op_isG : OpR X (compareOp .Is) (liftO X.K (isG false)) :=
  OpRimp ((op_isN (X := X)).or (op_isBl (X := X))) fun x y H Q ⟨dx, dy, M, Qd, q, a, b, c, k⟩ => by
    unfold isG at q
    split at q
    · exact .inl ⟨b.toNon, by rw [isNone_of a]; exact k _ M _ H (by simpa using q) .refl (.bl _) c⟩
    · split at q
      · exact .inr ⟨_, _, a.toBl, b.toBl, k _ M _ H (by simpa using q) .refl (.bl _) c⟩
      · exact q.elim
    · exact q.elim
theorem op_isNotG : OpR X (compareOp .IsNot) (liftO X.K (isG true)) :=
  OpRimp ((op_notN (X := X)).or (op_notBl (X := X))) fun x y H Q ⟨dx, dy, M, Qd, q, a, b, c, k⟩ => by
    unfold isG at q
    split at q
    · exact .inl ⟨b.toNon, by rw [isNone_of a]; exact k _ M _ H (by simpa using q) .refl (.bl _) c⟩
    · split at q
      · exact .inr ⟨_, _, a.toBl, b.toBl, k _ M _ H (by simpa using q) .refl (.bl _) c⟩
      · exact q.elim
    · exact q.elim

/-! ### comparisons and tests -/
theorem pd_cmp {op : CmpOp} {g : DO} {a b : Expr} {ta tb : DE} {pos : Pos} (ho : OpR X (compareOp op) (liftO X.K g)) (ha : PD X W a ta) (hb : PD X W b tb) (hm : behindInMarks op b = false) : PD X W (.Compare a [op] [b] pos) (dOp g ta tb) :=
  ⟨PEimp (pe_cmpR ho ha.run hb.run hm) fun _ _ _ h => dOp_lift h⟩
/-- a value that is a bool, as a test -/
def dB (t : DE) : DT := fun τ M Q E => t τ M (fun d M1 => match d with | .bl b => Q b M1 | _ => False) E
theorem dB_lift {t : DE} {σ : St} {H : Hp} {Q : Bool → Hp → Prop} (h : liftT X.K W (dB t) σ H Q) : liftE X.K W t σ H (fun x H1 => ∃ k, x = .bl k ∧ Q k H1) := by
  obtain ⟨τ, M, Qd, Ed, hs, hr, q, we, k⟩ := h
  refine ⟨τ, M, _, Ed, hs, hr, q, we, fun d M1 v H1 q1 e1 r1 h1 => ?_⟩
  dsimp only at q1
  split at q1
  · exact ⟨_, r1.toBl, k _ M1 H1 q1 e1 h1⟩
  · exact q1.elim
theorem pt_cmpD {op : CmpOp} {g : DO} {a b : Expr} {ta tb : DE} {pos : Pos} (ho : OpR X (compareOp op) (liftO X.K g)) (ha : PD X W a ta) (hb : PD X W b tb) (hm : behindInMarks op b = false) : PTD X W (.Compare a [op] [b] pos) (dB (dOp g ta tb)) :=
  ⟨PTimp (pt_cmpR ho ha.run hb.run hm) fun σ H Q h => dOp_lift (Q := fun x H1 => ∃ k, x = .bl k ∧ Q k H1) (W := W) (by
    obtain ⟨τ, M, Qd, Ed, hs, hr, q, we, k⟩ := h
    exact ⟨τ, M, _, Ed, hs, hr, q, we, fun d M1 v H1 q1 e1 r1 h1 => by
      dsimp only at q1
      split at q1
      · exact ⟨_, r1.toBl, k _ M1 H1 q1 e1 h1⟩
      · exact q1.elim⟩)⟩
theorem ptd_val {e : Expr} {t : DE} (h : PD X W e t) (he : ∀ whole, isTrue e X.env whole = (do let v ← whole; standAt e.pos; holding [v] (truthy v)) := by intro _; rfl) : PTD X W e (dB t) :=
  ⟨PTimp (pt_val h.run he) fun σ H Q h => dB_lift h⟩
/-- a value by its truth -/
def truD (d : D) (M : Mp) : Option Bool := match d with
  | .non => some false
  | .bl b => some b
  | .int i => some (i != 0)
  | .str x => if x.length ≤ sizeLine then some ((x.length : Int) != 0) else none
  | .tup xs => some (!xs.isEmpty)
  | .ref a => match M a with
    | some (.lst xs) => some (!xs.isEmpty)
    | some (.dk xs) => some (!xs.isEmpty)
    | _ => none
  | .ty _ => none
def dTru (t : DE) : DT := fun τ M Q E => t τ M (fun d M1 => match truD d M1 with | some b => Q b M1 | none => False) E
theorem KD.isEmpty {K : PySem.W.Frag} {H : Hp} {ps : List (Key × V)} {qs : List (Key × D)} (h : KD K H ps qs) : ps.isEmpty = qs.isEmpty := by
  cases ps <;> cases qs <;> first | rfl | exact h.elim
theorem truD_ok {K : PySem.W.Frag} {H : Hp} {M : Mp} {v : V} {d : D} {b : Bool} (r : Rp K H v d) (hr : HR K H M) (h : truD d M = some b) : TruV K v H b := by
  cases d with
  | non => cases r; exact (Option.some.inj h).symm
  | bl b => cases r; exact (Option.some.inj h).symm
  | int i => cases r; exact (Option.some.inj h).symm
  | str x =>
    cases r
    unfold truD at h
    by_cases c : x.length ≤ sizeLine
    · simp only [c, if_true] at h
      exact ⟨c, (Option.some.inj h).symm⟩
    · simp [c] at h
  | tup xs =>
    obtain ⟨a, vs, rfl, s, l⟩ := r.toTup
    exact .inr (.inl ⟨vs, s, by rw [l.isEmpty]; exact (Option.some.inj h).symm⟩)
  | ref a =>
    cases r
    have h' : (match M a with | some (.lst xs) => some (!xs.isEmpty) | some (.dk xs) => some (!xs.isEmpty) | _ => none) = some b := h
    cases e : M a with
    | none => rw [e] at h'; cases h'
    | some o =>
      rw [e] at h'
      cases o with
      | lst xs =>
        obtain ⟨vs, hv, l⟩ := hr.lst e
        exact .inl ⟨vs, SqL.of hv, by rw [l.isEmpty]; exact (Option.some.inj h').symm⟩
      | dk xs =>
        obtain ⟨vs, hv, l⟩ := hr.dk e
        exact .inr (.inr ⟨vs, hv, by rw [l.isEmpty]; exact (Option.some.inj h').symm⟩)
      | rol xs => cases h'
      | ins C xs => cases h'
      | xd xs => cases h'
      | rdk xs => cases h'
  | ty n => cases h
theorem ptd_tru {e : Expr} {t : DE} (h : PD X W e t) (he : ∀ whole, isTrue e X.env whole = (do let v ← whole; standAt e.pos; holding [v] (truthy v)) := by intro _; rfl) : PTD X W e (dTru t) :=
  ⟨PTimp (pt_truth h.run he) fun σ H Q ⟨τ, M, Qd, Ed, hs, hr, q, we, k⟩ => ⟨τ, M, _, Ed, hs, hr, q, we, fun d M1 v H1 q1 e1 r1 h1 => by
    dsimp only at q1
    split at q1
    · rename_i b eb
      exact ⟨b, truD_ok r1 h1 eb, k b M1 H1 q1 e1 h1⟩
    · exact q1.elim⟩⟩
def dAnd (t u : DT) : DT := fun τ M Q E => t τ M (fun c M1 => if c = true then u τ M1 Q E else Q false M1) E
def dOr (t u : DT) : DT := fun τ M Q E => t τ M (fun c M1 => if c = true then Q true M1 else u τ M1 Q E) E
def dNot (t : DT) : DT := fun τ M Q E => t τ M (fun c M1 => Q (!c) M1) E
section
variable {a b : Expr} {rest : List Expr} {t u : DT} {pos : Pos} {te ue : DE}
theorem PWD.pt {e : Expr} {t : DT} (h : PWD X W e t) : PTD X W e t := ⟨h.run.pt⟩
theorem pwd_and1 (h : PTD X W a t) : PWD X W (.BoolOp .And [a] pos) t := ⟨pw_and1 h.run⟩
theorem pwd_or1 (h : PTD X W a t) : PWD X W (.BoolOp .Or [a] pos) t := ⟨pw_or1 h.run⟩
theorem pwd_and (h : PTD X W a t) (hb : PWD X W (.BoolOp .And (b :: rest) pos) u) : PWD X W (.BoolOp .And (a :: b :: rest) pos) (dAnd t u) :=
  ⟨PWimp (pw_and h.run hb.run) fun σ H Q ⟨τ, M, Qd, Ed, hs, hr, q, we, k⟩ => ⟨τ, M, _, Ed, hs, hr, q, we, fun c M1 H1 q1 e1 h1 => by
    cases c with
    | true => exact ⟨τ, M1, Qd, Ed, hs.mono e1, h1, q1, we, fun b M2 H2 q2 e2 h2 => k b M2 H2 q2 (e1.trans e2) h2⟩
    | false => exact k false M1 H1 (by simpa using q1) e1 h1⟩⟩
theorem pwd_or (h : PTD X W a t) (hb : PWD X W (.BoolOp .Or (b :: rest) pos) u) : PWD X W (.BoolOp .Or (a :: b :: rest) pos) (dOr t u) :=
  ⟨PWimp (pw_or h.run hb.run) fun σ H Q ⟨τ, M, Qd, Ed, hs, hr, q, we, k⟩ => ⟨τ, M, _, Ed, hs, hr, q, we, fun c M1 H1 q1 e1 h1 => by
    cases c with
    | true => exact k true M1 H1 q1 e1 h1
    | false => exact ⟨τ, M1, Qd, Ed, hs.mono e1, h1, (by simpa using q1), we, fun b M2 H2 q2 e2 h2 => k b M2 H2 q2 (e1.trans e2) h2⟩⟩⟩
theorem ptd_not (h : PTD X W a t) : PTD X W (.UnaryOp .Not a pos) (dNot t) :=
  ⟨PTimp (pt_not h.run) fun σ H Q ⟨τ, M, Qd, Ed, hs, hr, q, we, k⟩ => ⟨τ, M, _, Ed, hs, hr, q, we, fun c M1 H1 q1 e1 h1 => k _ M1 H1 q1 e1 h1⟩⟩
/-- .. as values, all but the last bools -/
def dAndV (t u : DE) : DE := fun τ M Q E => t τ M (fun d M1 => match d with | .bl c => if c = true then u τ M1 Q E else Q (.bl false) M1 | _ => False) E
def dOrV (t u : DE) : DE := fun τ M Q E => t τ M (fun d M1 => match d with | .bl c => if c = true then Q (.bl true) M1 else u τ M1 Q E | _ => False) E
def dNotV (t : DE) : DE := fun τ M Q E => t τ M (fun d M1 => match d with | .bl c => Q (.bl (!c)) M1 | _ => False) E
theorem pd_one {op : BoolOp} (h : PD X W a te) : PD X W (.BoolOp op [a] pos) te := ⟨pe_one h.run⟩
theorem pd_and (h : PD X W a te) (hb : PD X W (.BoolOp .And (b :: rest) pos) ue) : PD X W (.BoolOp .And (a :: b :: rest) pos) (dAndV te ue) :=
  ⟨PEimp (pe_and h.run hb.run) fun σ H Q ⟨τ, M, Qd, Ed, hs, hr, q, we, k⟩ => ⟨τ, M, _, Ed, hs, hr, q, we, fun d M1 v H1 q1 e1 r1 h1 => by
    dsimp only at q1
    split at q1
    · rename_i c
      refine ⟨c, r1.toBl, ?_⟩
      cases c with
      | true => exact ⟨τ, M1, Qd, Ed, hs.mono e1, h1, q1, we, k.mono e1⟩
      | false => exact k _ M1 _ H1 (by simpa using q1) e1 (.bl _) h1
    · exact q1.elim⟩⟩
theorem pd_or (h : PD X W a te) (hb : PD X W (.BoolOp .Or (b :: rest) pos) ue) : PD X W (.BoolOp .Or (a :: b :: rest) pos) (dOrV te ue) :=
  ⟨PEimp (pe_or h.run hb.run) fun σ H Q ⟨τ, M, Qd, Ed, hs, hr, q, we, k⟩ => ⟨τ, M, _, Ed, hs, hr, q, we, fun d M1 v H1 q1 e1 r1 h1 => by
    dsimp only at q1
    split at q1
    · rename_i c
      refine ⟨c, r1.toBl, ?_⟩
      cases c with
      | true => exact k _ M1 _ H1 (by simpa using q1) e1 (.bl _) h1
      | false => exact ⟨τ, M1, Qd, Ed, hs.mono e1, h1, (by simpa using q1), we, k.mono e1⟩
    · exact q1.elim⟩⟩
theorem pd_not (h : PD X W a te) : PD X W (.UnaryOp .Not a pos) (dNotV te) :=
  ⟨PEimp (pe_not h.run) fun σ H Q ⟨τ, M, Qd, Ed, hs, hr, q, we, k⟩ => ⟨τ, M, _, Ed, hs, hr, q, we, fun d M1 v H1 q1 e1 r1 h1 => by
    dsimp only at q1
    split at q1
    · exact ⟨_, r1.toBl, k _ M1 _ H1 q1 e1 (.bl _) h1⟩
    · exact q1.elim⟩⟩
def dNeg (t : DE) : DE := fun τ M Q E => t τ M (fun d M1 => match d with | .int i => Q (.int (-i)) M1 | _ => False) E
theorem pd_neg (h : PD X W a te) : PD X W (.UnaryOp .USub a pos) (dNeg te) :=
  ⟨PEimp (pe_un un_neg h.run) fun σ H Q ⟨τ, M, Qd, Ed, hs, hr, q, we, k⟩ => ⟨τ, M, _, Ed, hs, hr, q, we, fun d M1 v H1 q1 e1 r1 h1 => by
    dsimp only at q1
    split at q1
    · exact ⟨_, r1.toInt, k _ M1 _ H1 q1 e1 (.int _) h1⟩
    · exact q1.elim⟩⟩
end
end
end DL

set_option maxHeartbeats 4000000
namespace DL
open PySem L2
section
variable {X : Cx} {W : DW} {e a b o : Expr} {es : List Expr} {te ta tb : DE} {t : DA} {pos p apos : Pos}

/-! ### argument lists, displays -/
def dNil : DA := fun _ M Q _ => Q [] M
def dCons (te : DE) (t : DA) : DA := fun τ M Q E => te τ M (fun d M1 => t τ M1 (fun ds M2 => Q (d :: ds) M2) E) E
theorem pad_nil : PAD X W [] dNil := ⟨PAimp pa_nil fun σ H Q ⟨τ, M, Qd, Ed, hs, hr, q, we, k⟩ => k [] M [] H q .refl .nil hr⟩
theorem pad_cons (he : PD X W e te) (h : PAD X W es t) (hs : starEach (e :: es) X.env = (false, eval e X.env) :: starEach es X.env := by rfl) : PAD X W (e :: es) (dCons te t) :=
  ⟨PAimp (pa_cons he.run h.run hs) fun σ H Q ⟨τ, M, Qd, Ed, hs, hr, q, we, k⟩ => ⟨τ, M, _, Ed, hs, hr, q, we, fun d M1 v H1 q1 e1 r1 h1 =>
    ⟨τ, M1, _, Ed, hs.mono e1, h1, q1, we, fun ds M2 vs H2 q2 e2 r2 h2 => k (d :: ds) M2 (v :: vs) H2 q2 (e1.trans e2) (.cons (r1.mono e2) r2) h2⟩⟩⟩
def dTup (t : DA) : DE := fun τ M Q E => t τ M (fun ds M1 => ds.length ≤ sizeLine ∧ Q (.tup ds) M1) E
def dLst (t : DA) : DE := fun τ M Q E => t τ M (fun ds M1 => ds.length ≤ sizeLine ∧ ∀ p, M1 p = none → Q (.ref p) (put M1 p (.lst ds))) E
theorem pd_tup {x1} (h : PAD X W es t) : PD X W (.Tuple es x1 pos) (dTup t) :=
  ⟨PEimp (pe_tup h.run) fun σ H Q ⟨τ, M, Qd, Ed, hs, hr, q, we, k⟩ => ⟨τ, M, _, Ed, hs, hr, q, we, fun ds M1 vs H1 q1 e1 r1 h1 =>
    ⟨by rw [r1.length]; exact q1.1, fun p hp => (k.mono e1).tup h1 r1 hp q1.2⟩⟩⟩
theorem pd_lst (h : PAD X W es t) : PD X W (.List es pos) (dLst t) :=
  ⟨PEimp (pe_lst h.run) fun σ H Q ⟨τ, M, Qd, Ed, hs, hr, q, we, k⟩ => ⟨τ, M, _, Ed, hs, hr, q, we, fun ds M1 vs H1 q1 e1 r1 h1 =>
    ⟨by rw [r1.length]; exact q1.1, fun p hp => (k.mono e1).lst h1 r1 hp q1.2⟩⟩⟩

/-! ### calls of what is built in -/
abbrev DG := List D → Mp → DK → Prop
def liftC (K : PySem.W.Frag) (g : DG) : List V → Hp → VK → Prop := fun xs H Q => ∃ ds M Qd, g ds M Qd ∧ RpL K H xs ds ∧ HR K H M ∧ KC K H Qd Q
def dCB (g : DG) (t : DA) : DE := fun τ M Q E => t τ M (fun ds M1 => g ds M1 Q) E
theorem dCB_lift {g : DG} {σ : St} {H : Hp} {Q : VK} (h : liftE X.K W (dCB g t) σ H Q) : tCB (liftC X.K g) (liftA X.K W t) σ H Q := by
  obtain ⟨τ, M, Qd, Ed, hs, hr, q, we, k⟩ := h
  exact ⟨τ, M, _, Ed, hs, hr, q, we, fun ds M1 vs H1 q1 e1 r1 h1 => ⟨ds, M1, Qd, q1, r1, h1, k.mono e1⟩⟩
theorem CallRimp {f : Value} {r r' : List V → Hp → VK → Prop} (h : CallR X f r) (i : ∀ xs H Q, r' xs H Q → r xs H Q) : CallR X f r' := fun pins s σ H xs us Q I rs q => h pins s σ H xs us Q I rs (i xs H Q q)
theorem pd_callB {id : String} {x : Str} {g : DG} (hc : CallR X (.builtin id) (liftC X.K g)) (hg : Gl X x) (hm : X.mg x = none) (hv : bootBuiltins x = some (.builtin id)) (ha : PAD X W (e :: es) t) (hn : x ≠ "__name__" := by decide) (hdb : (x == ("__debug__" : Str)) = false := by decide)
    (he : starEach (e :: es) X.env = (false, eval e X.env) :: starEach es X.env := by rfl) (hpl : (backTo pos (starEach es X.env)).any (·.1) = false := by rfl) :
    PD X W (.Call (.Name x p) (e :: es) [] pos) (dCB g t) := ⟨PEimp (pe_callB hc hg hm hv ha.run hn hdb he hpl) fun _ _ _ h => dCB_lift h⟩
theorem pd_callT {T : String} {x : Str} {g : DG} (hc : CallR X (.type T) (liftC X.K g)) (hg : Gl X x) (hm : X.mg x = none) (hv : bootBuiltins x = some (.type T)) (ha : PAD X W (e :: es) t) (hn : x ≠ "__name__" := by decide) (hdb : (x == ("__debug__" : Str)) = false := by decide)
    (he : starEach (e :: es) X.env = (false, eval e X.env) :: starEach es X.env := by rfl) (hpl : (backTo pos (starEach es X.env)).any (·.1) = false := by rfl) :
    PD X W (.Call (.Name x p) (e :: es) [] pos) (dCB g t) := ⟨PEimp (pe_callTy hc hg hm hv ha.run hn hdb he hpl) fun _ _ _ h => dCB_lift h⟩
theorem RpL.one {K : PySem.W.Frag} {H : Hp} {vs : List V} {d : D} (h : RpL K H vs [d]) : ∃ v, vs = [v] ∧ Rp K H v d := by
  cases h with
  | cons r l => cases l; exact ⟨_, rfl, r⟩
theorem RpL.two {K : PySem.W.Frag} {H : Hp} {vs : List V} {d d' : D} (h : RpL K H vs [d, d']) : ∃ v v', vs = [v, v'] ∧ Rp K H v d ∧ Rp K H v' d' := by
  cases h with
  | cons r l => obtain ⟨v, rfl, q⟩ := l.one; exact ⟨_, _, rfl, r, q⟩
/-- len -/
def lenD (d : D) (M : Mp) : Option Nat := match d with
  | .tup xs => some xs.length
  | .str x => if x.length ≤ sizeLine then some x.length else none
  | .ref a => match M a with
    | some (.lst xs) => some xs.length
    | some (.rol xs) => some xs.length
    | _ => none
  | _ => none
def lenG : DG := fun ds M Q => match ds with
  | [d] => match lenD d M with
    | some n => Q (.int n) M
    | none => False
  | _ => False
theorem HR.rol {K : PySem.W.Frag} {H : Hp} {M : Mp} {a : Addr} {ds : List D} (h : HR K H M) (e : M a = some (.rol ds)) : ∃ o xs, H a = some (.frz o (.lst xs)) ∧ RpL K H xs ds := h a _ e
/-- the items of a list that is read -/
def seqOf (M : Mp) (a : Addr) : Option (List D) := match M a with
  | some (.lst xs) => some xs
  | some (.rol xs) => some xs
  | _ => none
theorem seqOf_ok {K : PySem.W.Frag} {H : Hp} {M : Mp} {a : Addr} {ds : List D} (hr : HR K H M) (h : seqOf M a = some ds) : ∃ xs, SqL K H a xs ∧ RpL K H xs ds := by
  unfold seqOf at h
  cases e : M a with
  | none => rw [e] at h; cases h
  | some o =>
    rw [e] at h
    cases o with
    | lst xs => cases h; obtain ⟨vs, q, l⟩ := hr.lst e; exact ⟨vs, .of q, l⟩
    | rol xs => cases h; obtain ⟨o, vs, q, l⟩ := hr.rol e; exact ⟨vs, .inl (.inr ⟨o, q⟩), l⟩
    | dk xs => cases h
    | ins C xs => cases h
    | xd xs => cases h
    | rdk xs => cases h
theorem lenD_ok {K : PySem.W.Frag} {H : Hp} {M : Mp} {v : V} {d : D} {n : Nat} (r : Rp K H v d) (hr : HR K H M) (h : lenD d M = some n) : LenV K v H n := by
  cases d with
  | tup xs =>
    obtain ⟨a, vs, rfl, s, l⟩ := r.toTup
    cases h
    exact .inr ⟨vs, s, l.length.symm⟩
  | str x =>
    cases r
    have h' : (if x.length ≤ sizeLine then some x.length else none) = some n := h
    by_cases c : x.length ≤ sizeLine
    · rw [if_pos c] at h'; cases h'; exact ⟨c, rfl⟩
    · rw [if_neg c] at h'; cases h'
  | ref a =>
    cases r
    have h' : (match M a with | some (.lst xs) => some xs.length | some (.rol xs) => some xs.length | _ => none) = some n := h
    have : ∃ ds, seqOf M a = some ds ∧ ds.length = n := by
      unfold seqOf
      cases e : M a with
      | none => rw [e] at h'; cases h'
      | some o => rw [e] at h'; cases o <;> first | (cases h'; exact ⟨_, rfl, rfl⟩) | cases h'
    obtain ⟨ds, e, rfl⟩ := this
    obtain ⟨xs, s, l⟩ := seqOf_ok hr e
    exact .inl ⟨xs, s, l.length.symm⟩
  | _ => cases h
theorem call_lenG : CallR X (.builtin "len") (liftC X.K lenG) := CallRimp call_len fun xs H Q ⟨ds, M, Qd, q, r, hr, k⟩ => by
  unfold lenG at q
  split at q
  · rename_i d
    obtain ⟨v, rfl, rv⟩ := r.one
    split at q
    · rename_i n e
      exact ⟨v, n, rfl, lenD_ok rv hr e, k _ M _ H q .refl (.int _) hr⟩
    · exact q.elim
  · exact q.elim
/-- int(n), int(flag) -/
def intG : DG := fun ds M Q => match ds with
  | [.int i] => Q (.int i) M
  | [.bl b] => Q (.int (if b then 1 else 0)) M
  | _ => False
theorem call_intG : CallR X (.type "int") (liftC X.K intG) := CallRimp call_int1 fun xs H Q ⟨ds, M, Qd, q, r, hr, k⟩ => by
  unfold intG at q
  split at q
  · obtain ⟨v, rfl, rv⟩ := r.one
    rw [rv.toInt]
    exact .inl ⟨_, rfl, k _ M _ H q .refl (.int _) hr⟩
  · obtain ⟨v, rfl, rv⟩ := r.one
    rw [rv.toBl]
    exact .inr ⟨_, rfl, k _ M _ H q .refl (.int _) hr⟩
  · exact q.elim
/-- tuple(..), list(..) -/
def tupG : DG := fun ds M Q => match ds with
  | [.tup xs] => Q (.tup xs) M
  | [.ref a] => match seqOf M a with
    | some xs => Q (.tup xs) M
    | none => False
  | _ => False
theorem call_tupG : CallR X (.type "tuple") (liftC X.K tupG) := CallRimp call_tuple_of fun xs H Q ⟨ds, M, Qd, q, r, hr, k⟩ => by
  unfold tupG at q
  split at q
  · obtain ⟨v, rfl, rv⟩ := r.one
    obtain ⟨a, vs, rfl, s, l⟩ := rv.toTup
    exact ⟨a, vs, rfl, .inr ⟨s, k _ M _ H q .refl (.tup s l) hr⟩⟩
  · obtain ⟨v, rfl, rv⟩ := r.one
    rw [rv.toRef]
    split at q
    · rename_i xs e
      obtain ⟨vs, s, l⟩ := seqOf_ok hr e
      exact ⟨_, vs, rfl, .inl ⟨s, fun p hp => k.tup hr l hp q⟩⟩
    · exact q.elim
  · exact q.elim
def lstG : DG := fun ds M Q => match ds with
  | [.tup xs] => ∀ p, M p = none → Q (.ref p) (put M p (.lst xs))
  | [.ref a] => match seqOf M a with
    | some xs => ∀ p, M p = none → Q (.ref p) (put M p (.lst xs))
    | none => False
  | _ => False
theorem call_lstG : CallR X (.type "list") (liftC X.K lstG) := CallRimp call_list_of fun xs H Q ⟨ds, M, Qd, q, r, hr, k⟩ => by
  unfold lstG at q
  split at q
  · obtain ⟨v, rfl, rv⟩ := r.one
    obtain ⟨a, vs, rfl, s, l⟩ := rv.toTup
    exact ⟨a, vs, rfl, .inr s, fun p hp => k.lst hr l hp q⟩
  · obtain ⟨v, rfl, rv⟩ := r.one
    rw [rv.toRef]
    split at q
    · rename_i xs e
      obtain ⟨vs, s, l⟩ := seqOf_ok hr e
      exact ⟨_, vs, rfl, .inl s, fun p hp => k.lst hr l hp q⟩
    · exact q.elim
  · exact q.elim
/-- all, any of a list of bools -/
def blsOf : List D → Option (List Bool)
  | [] => some []
  | .bl b :: ds => (blsOf ds).map (b :: ·)
  | _ :: _ => none
theorem blsOf_map : ∀ bs : List Bool, blsOf (bs.map D.bl) = some bs
  | [] => rfl
  | b :: bs => by simp [blsOf, blsOf_map bs]
theorem blsOf_ok : ∀ {ds : List D} {bs : List Bool}, blsOf ds = some bs → ds = bs.map D.bl
  | [], bs, h => by cases h; rfl
  | d :: ds, bs, h => by
    cases d with
    | bl b =>
      have h' : (blsOf ds).map (b :: ·) = some bs := h
      cases e : blsOf ds with
      | none => rw [e] at h'; cases h'
      | some cs => rw [e] at h'; cases h'; rw [blsOf_ok e]; rfl
    | _ => cases h
def allG (f : List Bool → Bool) : DG := fun ds M Q => match ds with
  | [.ref a] => match (seqOf M a).bind blsOf with
    | some bs => Q (.bl (f bs)) M
    | none => False
  | _ => False
theorem allG_of {id : String} {f : List Bool → Bool} (h : CallR X (.builtin id) fun vs H Q => ∃ (a : Addr) (bs : List Bool), vs = [V.ref a] ∧ SqL X.K H a (bs.map V.bl) ∧ Q (.bl (f bs)) H) : CallR X (.builtin id) (liftC X.K (allG f)) := CallRimp h fun xs H Q ⟨ds, M, Qd, q, r, hr, k⟩ => by
  unfold allG at q
  split at q
  · obtain ⟨v, rfl, rv⟩ := r.one
    rw [rv.toRef]
    split at q
    · rename_i bs e
      obtain ⟨ds, e1, e2⟩ := Option.bind_eq_some_iff.mp e
      obtain ⟨vs, s, l⟩ := seqOf_ok hr e1
      have e3 := blsOf_ok e2
      subst e3
      exact ⟨_, bs, rfl, by rw [← l.bls]; exact s, k _ M _ H q .refl (.bl _) hr⟩
    · exact q.elim
  · exact q.elim
theorem call_allG (hc : X.calm = true) : CallR X (.builtin "all") (liftC X.K (allG fun bs => bs.all id)) := allG_of (cr_all hc)
theorem call_anyG (hc : X.calm = true) : CallR X (.builtin "any") (liftC X.K (allG fun bs => bs.any id)) := allG_of (cr_any hc)
/-- max, min of two ints -/
def mmG (f : Int → Int → Int) : DG := fun ds M Q => match ds with
  | [.int i, .int j] => Q (.int (f i j)) M
  | _ => False
theorem call_maxG (hc : X.calm = true) : CallR X (.builtin "max") (liftC X.K (mmG fun i j => if j > i then j else i)) := CallRimp (call_max2 hc) fun xs H Q ⟨ds, M, Qd, q, r, hr, k⟩ => by
  unfold mmG at q
  split at q
  · obtain ⟨v, v', rfl, rv, rv'⟩ := r.two
    rw [rv.toInt, rv'.toInt]
    exact ⟨_, _, rfl, k _ M _ H q .refl (.int _) hr⟩
  · exact q.elim
theorem call_minG (hc : X.calm = true) : CallR X (.builtin "min") (liftC X.K (mmG fun i j => if j < i then j else i)) := CallRimp (call_min2 hc) fun xs H Q ⟨ds, M, Qd, q, r, hr, k⟩ => by
  unfold mmG at q
  split at q
  · obtain ⟨v, v', rfl, rv, rv'⟩ := r.two
    rw [rv.toInt, rv'.toInt]
    exact ⟨_, _, rfl, k _ M _ H q .refl (.int _) hr⟩
  · exact q.elim

/-! ### isinstance -/
/-- what the written part says of a class whose instances are asked -/
structure InsK (K : PySem.W.Frag) (C : Addr) : Prop where
  cl : Cls K C
  ha : PySem.W.findIn K (.ref C) "__class__" = some (some (.builtin "object.__class__"))
  hn : PySem.W.specialIn K (.builtin "object.__class__") "__get__" = some (some (.builtin "getset_descriptor.__get__"))
  htk : PySem.W.takesIn K (.builtin "object.__class__") = some true
  hm : PySem.W.mroIn K C (.type "object") = some true
def tyName (d : D) (M : Mp) : Option String := match d with
  | .non => some "NoneType"
  | .bl _ => some "bool"
  | .int _ => some "int"
  | .str _ => some "str"
  | .tup _ => some "tuple"
  | .ref a => match M a with
    | some (.lst _) => some "list"
    | some (.rol _) => some "list"
    | some (.dk _) => some "dict"
    | _ => none
  | .ty _ => none
def clsOf (d : D) (M : Mp) : Option Addr := match d with
  | .ref a => match M a with
    | some (.ins C _) => some C
    | _ => none
  | _ => none
theorem tyName_ok {K : PySem.W.Frag} {H : Hp} {M : Mp} {v : V} {d : D} {n : String} (r : Rp K H v d) (hr : HR K H M) (h : tyName d M = some n) : TyX K H v (.type n) := by
  cases d with
  | non => cases r; cases h; exact .base .non
  | bl b => cases r; cases h; exact .base (.bl b)
  | int b => cases r; cases h; exact .base (.int b)
  | str b => cases r; cases h; exact .base (.str b)
  | tup xs =>
    obtain ⟨a, vs, rfl, s, l⟩ := r.toTup
    cases h
    rcases s with (s | ⟨o, s⟩) | ⟨o, its, m, s, c, _⟩
    · exact .base (.tup s)
    · exact .fTuple s
    · exact .kTuple s c
  | ref a =>
    cases r
    have h' : (match M a with | some (.lst _) => some "list" | some (.rol _) => some "list" | some (.dk _) => some "dict" | _ => none) = some n := h
    cases e : M a with
    | none => rw [e] at h'; cases h'
    | some o =>
      rw [e] at h'
      cases o with
      | lst xs => cases h'; obtain ⟨vs, q, _⟩ := hr.lst e; exact .base (.lst q)
      | rol xs => cases h'; obtain ⟨o, vs, q, _⟩ := hr.rol e; exact .base (.frz q)
      | dk xs => cases h'; obtain ⟨vs, q, _⟩ := hr.dk e; exact .base (.dK q)
      | ins C xs => cases h'
      | xd xs => cases h'
      | rdk xs => cases h'
  | ty n => cases h
theorem clsOf_ok {K : PySem.W.Frag} {H : Hp} {M : Mp} {v : V} {d : D} {C : Addr} (r : Rp K H v d) (hr : HR K H M) (h : clsOf d M = some C) (i : InsK K C) : TyX K H v (.ref C) := by
  cases d with
  | ref a =>
    cases r
    have h' : (match M a with | some (.ins C _) => some C | _ => none) = some C := h
    cases e : M a with
    | none => rw [e] at h'; cases h'
    | some o =>
      rw [e] at h'
      cases o with
      | ins C' xs => cases h'; obtain ⟨dx, vs, q, _⟩ := hr.ins e; exact .base (.ins q i.cl i.ha i.hn i.htk i.hm)
      | _ => cases h'
  | _ => cases h
def isB (a b : String) : Bool := decide (a = b) || (decide (a = "bool") && decide (b = "int"))
theorem kit_isB {a b : String} (ha : a ∈ ["NoneType", "bool", "int", "str", "tuple", "list", "dict"]) (hb : b ∈ ["bool", "int", "str", "tuple", "list", "dict"]) : kitB a b = some (isB a b) := by
  simp only [List.mem_cons, List.not_mem_nil, or_false] at ha hb
  rcases ha with rfl | rfl | rfl | rfl | rfl | rfl | rfl <;> rcases hb with rfl | rfl | rfl | rfl | rfl | rfl <;> decide +kernel
theorem tyName_mem {d : D} {M : Mp} {n : String} (h : tyName d M = some n) : n ∈ ["NoneType", "bool", "int", "str", "tuple", "list", "dict"] := by
  cases d with
  | ref a =>
    have h' : (match M a with | some (.lst _) => some "list" | some (.rol _) => some "list" | some (.dk _) => some "dict" | _ => none) = some n := h
    cases e : M a with
    | none => rw [e] at h'; cases h'
    | some o => rw [e] at h'; cases o <;> first | (cases h'; simp) | cases h'
  | ty n => cases h
  | _ => cases h; simp
def isiG (K : PySem.W.Frag) : DG := fun ds M Q => match ds with
  | [x, .ty b] => b ∈ ["bool", "int", "str", "tuple", "list", "dict"] ∧ match tyName x M with
    | some a => Q (.bl (isB a b)) M
    | none => ∃ C, clsOf x M = some C ∧ InsK K C ∧ PySem.W.kitOne K (.ref C) (.type b) = some false ∧ Q (.bl false) M
  | [x, .ref C'] => match tyName x M with
    | some a => PySem.W.kitOne K (.type a) (.ref C') = some false ∧ Q (.bl false) M
    | none => ∃ C r, clsOf x M = some C ∧ InsK K C ∧ PySem.W.kitOne K (.ref C) (.ref C') = some r ∧ Q (.bl r) M
  | _ => False
theorem call_isiG : CallR X (.builtin "isinstance") (liftC X.K (isiG X.K)) := CallRimp call_isi fun xs H Q ⟨ds, M, Qd, q, r, hr, k⟩ => by
  unfold isiG at q
  split at q
  · rename_i x b
    obtain ⟨v, v', rfl, rv, rv'⟩ := r.two
    rw [rv'.toTy]
    obtain ⟨hb, q⟩ := q
    split at q
    · rename_i a ea
      exact ⟨v, _, _, _, _, rfl, .ty b, tyName_ok rv hr ea, kit_ty (kit_isB (tyName_mem ea) hb), k _ M _ H q .refl (.bl _) hr⟩
    · obtain ⟨C, ec, i, kk, q⟩ := q
      exact ⟨v, _, _, _, _, rfl, .ty b, clsOf_ok rv hr ec i, kk, k _ M _ H q .refl (.bl _) hr⟩
  · rename_i x C'
    obtain ⟨v, v', rfl, rv, rv'⟩ := r.two
    rw [rv'.toRef]
    split at q
    · rename_i a ea
      exact ⟨v, _, _, _, _, rfl, .own C', tyName_ok rv hr ea, q.1, k _ M _ H q.2 .refl (.bl _) hr⟩
    · obtain ⟨C, r, ec, i, kk, q⟩ := q
      exact ⟨v, _, _, _, _, rfl, .own C', clsOf_ok rv hr ec i, kk, k _ M _ H q .refl (.bl _) hr⟩
  · exact q.elim

/-! ### subscripts, slices, attributes -/
def ixG : DO := fun x y M Q => match x, y with
  | .tup xs, .int i => match atI xs i with
    | some d => Q d M
    | none => False
  | .ref a, .int i => match (seqOf M a).bind (atI · i) with
    | some d => Q d M
    | none => False
  | .str z, .int i => z.length ≤ sizeLine ∧ match atI z.cps.toList i with
    | some c => Q (.str ⟨#[c]⟩) M
    | none => False
  | _, _ => False
theorem RpL.atI {K : PySem.W.Frag} {H : Hp} {xs : List V} {ds : List D} {i : Int} {d : D} (l : RpL K H xs ds) (h : L2.atI ds i = some d) : ∃ v, L2.atI xs i = some v ∧ Rp K H v d := by
  unfold L2.atI at h ⊢
  rw [l.length]
  obtain ⟨j, e1, e2⟩ := Option.bind_eq_some_iff.mp h
  obtain ⟨v, e3, r⟩ := l.get e2
  exact ⟨v, by rw [e1]; exact e3, r⟩
theorem IxRimp {r r' : R2} (h : IxR X r) (i : ∀ x y H Q, r' x y H Q → r x y H Q) : IxR X r' := fun value slice pins s σ H x y v u Q I rx ry q hs => h value slice pins s σ H x y v u Q I rx ry (i x y H Q q) hs
theorem ix_G : IxR X (liftO X.K ixG) := IxRimp ix_seq fun x y H Q ⟨dx, dy, M, Qd, q, a, b, c, k⟩ => by
  unfold ixG at q
  split at q
  · obtain ⟨p, vs, rfl, s, l⟩ := a.toTup
    split at q
    · rename_i d e
      obtain ⟨v, ev, rv⟩ := l.atI e
      exact .inr (.inl ⟨p, vs, _, v, rfl, b.toInt, s, ev, k _ M _ H q .refl rv c⟩)
    · exact q.elim
  · split at q
    · rename_i d e
      obtain ⟨xs, e1, e2⟩ := Option.bind_eq_some_iff.mp e
      obtain ⟨vs, s, l⟩ := seqOf_ok c e1
      obtain ⟨v, ev, rv⟩ := l.atI e2
      exact .inl ⟨_, vs, _, v, a.toRef, b.toInt, s, ev, k _ M _ H q .refl rv c⟩
    · exact q.elim
  · obtain ⟨hz, q⟩ := q
    split at q
    · rename_i d e
      exact .inr (.inr ⟨_, _, _, a.toStr, b.toInt, hz, e, k _ M _ H q .refl (.str _) c⟩)
    · exact q.elim
  · exact q.elim
theorem pd_ix {g : DO} (hg : IxR X (liftO X.K g)) (ha : PD X W a ta) (hb : PD X W b tb) (hs : PlainIx b) : PD X W (.Subscript a b pos) (dOp g ta tb) :=
  ⟨PEimp (pe_ix hg ha.run hb.run hs) fun _ _ _ h => dOp_lift h⟩
/-- a slice's part -/
abbrev DP := Sl → Mp → (Option Int → Mp → Prop) → EK → Prop
def liftP (K : PySem.W.Frag) (W : DW) (t : DP) : TO := fun σ H Q => ∃ τ M Qd Ed, RS K W.h0 H σ τ ∧ HR K H M ∧ t τ M Qd Ed ∧ (∀ x M', Ed x M' → W.w x τ M') ∧ (∀ b M' H', Qd b M' → TExt K H H' → HR K H' M' → Q b H')
structure POD (X : Cx) (W : DW) (e : Option Expr) (t : DP) : Prop where
  run : PO X e (liftP X.K W t)
def dNoP : DP := fun _ M Q _ => Q none M
def dPart (t : DE) : DP := fun τ M Q E => t τ M (fun d M1 => match d with | .int i => Q (some i) M1 | _ => False) E
theorem POimp {e : Option Expr} {t t' : TO} (h : PO X e t) (i : ∀ σ H Q, t' σ H Q → t σ H Q) : PO X e t' := ⟨fun pins s σ H Q I q => h.run pins s σ H Q I (i σ H Q q)⟩
theorem pod_none : POD X W none dNoP := ⟨POimp po_none fun σ H Q ⟨τ, M, Qd, Ed, hs, hr, q, we, k⟩ => k none M H q .refl hr⟩
theorem pod_some (h : PD X W e te) : POD X W (some e) (dPart te) := ⟨POimp (po_some h.run) fun σ H Q ⟨τ, M, Qd, Ed, hs, hr, q, we, k⟩ => ⟨τ, M, _, Ed, hs, hr, q, we, fun d M1 v H1 q1 e1 r1 h1 => by
  dsimp only at q1
  split at q1
  · exact ⟨_, r1.toInt, k _ M1 H1 q1 e1 h1⟩
  · exact q1.elim⟩⟩
def cutD (xs : List D) (lo hi : Option Int) : List D := (xs.drop (HT.sIx xs.length 0 lo)).take (HT.sIx xs.length xs.length hi - HT.sIx xs.length 0 lo)
theorem RpL.cut {K : PySem.W.Frag} {H : Hp} {xs : List V} {ds : List D} {lo hi : Option Int} (l : RpL K H xs ds) : RpL K H (cutV xs lo hi) (cutD ds lo hi) := by
  unfold cutV cutD
  rw [l.length]
  exact (l.drop _).take _
def slG (x : D) (lo hi : Option Int) (M : Mp) (Q : DK) : Prop := match x with
  | .tup xs => Q (.tup (cutD xs lo hi)) M
  | .ref a => match seqOf M a with
    | some xs => ∀ p, M p = none → Q (.ref p) (put M p (.lst (cutD xs lo hi)))
    | none => False
  | .str z => z.length ≤ sizeLine ∧ Q (.str (cutS z lo hi)) M
  | _ => False
theorem sIx_whole {n : Nat} {lo hi : Option Int} {xs : List D} (hn : xs.length = n) (h : HT.sIx n 0 lo = 0 ∧ HT.sIx n n hi = n) : cutD xs lo hi = xs := by
  unfold cutD
  rw [hn, h.1, h.2, ← hn]
  simp
def dSl (te : DE) (tl th : DP) : DE := fun τ M Q E => te τ M (fun x M1 => tl τ M1 (fun lo M2 => th τ M2 (fun hi M3 => slG x lo hi M3 Q) E) E) E
def liftSl (K : PySem.W.Frag) : V → Option Int → Option Int → Hp → VK → Prop := fun x lo hi H Q => ∃ d M Qd, slG d lo hi M Qd ∧ Rp K H x d ∧ HR K H M ∧ KC K H Qd Q
theorem sl_G : SlR X (liftSl X.K) := by
  have h := (sl_tupA (X := X)).or ((sl_list (X := X)).or (sl_str (X := X)))
  intro pins s σ H x v vl vu lo hi sl Q I rx hs pl pu ⟨d, M, Qd, q, r, hr, k⟩
  refine h pins s σ H x v vl vu lo hi sl Q I rx hs pl pu ?_
  unfold slG at q
  split at q
  · obtain ⟨p, vs, rfl, s, l⟩ := r.toTup
    refine .inl ⟨p, vs, rfl, s, fun hw => ?_, fun _ p hp => k.tup hr l.cut hp q⟩
    rw [sIx_whole l.length.symm hw] at q
    exact k _ M _ H q .refl (.tup s l) hr
  · split at q
    · rename_i xs e
      obtain ⟨vs, s, l⟩ := seqOf_ok hr e
      exact .inr (.inl ⟨_, vs, r.toRef, s, fun p hp => k.lst hr l.cut hp q⟩)
    · exact q.elim
  · exact .inr (.inr ⟨_, r.toStr, q.1, k _ M _ H q.2 .refl (.str _) hr⟩)
  · exact q.elim
theorem pd_slice {lo hi : Option Expr} {tl th : DP} {p2 : Pos} (he : PD X W e te) (hl : POD X W lo tl) (hh : POD X W hi th) : PD X W (.Subscript e (.Slice lo hi none p2) pos) (dSl te tl th) :=
  ⟨PEimp (pe_slice sl_G he.run hl.run hh.run) fun σ H Q ⟨τ, M, Qd, Ed, hs, hr, q, we, k⟩ => ⟨τ, M, _, Ed, hs, hr, q, we, fun x M1 v H1 q1 e1 r1 h1 =>
    ⟨τ, M1, _, Ed, hs.mono e1, h1, q1, we, fun lo M2 H2 q2 e2 h2 => ⟨τ, M2, _, Ed, hs.mono (e1.trans e2), h2, q2, we, fun hi M3 H3 q3 e3 h3 =>
      ⟨x, M3, Qd, q3, r1.mono (e2.trans e3), h3, k.mono (e1.trans (e2.trans e3))⟩⟩⟩⟩⟩
/-- an attribute of an instance -/
def FldK (K : PySem.W.Frag) (C : Addr) (f : Str) : Prop := Cls K C ∧ NoAttr K C f
def dFld (K : PySem.W.Frag) (te : DE) (f : Str) : DE := fun τ M Q E => te τ M (fun d M1 => match d with
  | .ref a => match M1 a with
    | some (.ins C fs) => FldK K C f ∧ match fs.lookup f with
      | some v => Q v M1
      | none => False
    | _ => False
  | _ => False) E
theorem FD.look {K : PySem.W.Frag} {H : Hp} {f : Str} : ∀ {vs : List (Str × V)} {fs : List (Str × D)}, FD K H vs fs → ∀ {d : D}, fs.lookup f = some d → ∃ v, vs.lookup f = some v ∧ Rp K H v d
  | [], [], _, d, h => by cases h
  | p :: ps, q :: qs, ⟨e, r, l⟩, d, h => by
    obtain ⟨p1, p2⟩ := p
    obtain ⟨q1, q2⟩ := q
    simp only at e r
    subst e
    by_cases c : (f == p1) = true
    · rw [List.lookup_cons, c] at h ⊢
      cases h
      exact ⟨p2, rfl, r⟩
    · have c' : (f == p1) = false := by simpa using c
      rw [List.lookup_cons, c'] at h ⊢
      exact FD.look l h
  | [], _ :: _, h, _, _ => h.elim
  | _ :: _, [], h, _, _ => h.elim
theorem pd_fld {f : Str} (he : PD X W e te) (hb : attributeBase e f X.env (eval e X.env) = eval e X.env := by rfl) : PD X W (.Attribute e f pos) (dFld X.K te f) :=
  ⟨PEimp (pe_fld he.run hb) fun σ H Q ⟨τ, M, Qd, Ed, hs, hr, q, we, k⟩ => ⟨τ, M, _, Ed, hs, hr, q, we, fun d M1 v H1 q1 e1 r1 h1 => by
    dsimp only at q1
    split at q1
    · rename_i a
      split at q1
      · rename_i C fs ea
        obtain ⟨⟨c, n⟩, q1⟩ := q1
        split at q1
        · rename_i y ey
          obtain ⟨dx, vs, hv, fd⟩ := h1.ins ea
          obtain ⟨w, ew, rw'⟩ := fd.look ey
          exact ⟨a, C, dx, vs, w, r1.toRef, hv, c, n, ew, k _ M1 _ H1 q1 e1 rw' h1⟩
        · exact q1.elim
      · exact q1.elim
    · exact q1.elim⟩⟩
end
end DL

set_option maxHeartbeats 4000000
namespace DL
open PySem L2

/-! ### statements -/
section
variable {X : Cx} {W : DW} {e : Expr} {st : Stmt} {rest : List Stmt} {t u : DS} {te : DE} {pos : Pos}
def dNext : DS := fun Dn τ M => Dn.nx τ M
def dSeq (t u : DS) : DS := fun Dn τ M => t { Dn with nx := u Dn } τ M
theorem pssd_nil : PSsD X W [] dNext := ⟨PSsimp pss_nil fun De σ H ⟨τ, M, Dd, hs, hr, q, we, nc⟩ => nc.nx τ M σ H q .refl hs hr⟩
theorem pssd_cons (h1 : PSD X W st t) (h2 : PSsD X W rest u) : PSsD X W (st :: rest) (dSeq t u) :=
  ⟨PSsimp (pss_cons h1.run h2.run) fun De σ H ⟨τ, M, Dd, hs, hr, q, we, nc⟩ => ⟨τ, M, _, hs, hr, q, we,
    ⟨fun τ' M' σ' H' q' e' hs' hr' => ⟨τ', M', Dd, hs', hr', q', we, nc.mono e'⟩, nc.rt, nc.bk, nc.ct⟩⟩⟩
theorem pssd_one (h1 : PSD X W st t) : PSsD X W [st] t := ⟨PSsimp (pss_one h1.run) fun De σ H h => h⟩
def dBreak : DS := fun Dn τ M => Dn.bk τ M
def dCont : DS := fun Dn τ M => Dn.ct τ M
theorem psd_pass : PSD X W (.Pass pos) dNext := ⟨PSimp ps_pass fun De σ H ⟨τ, M, Dd, hs, hr, q, we, nc⟩ => nc.nx τ M σ H q .refl hs hr⟩
theorem psd_break : PSD X W (.Break pos) dBreak := ⟨PSimp ps_break fun De σ H ⟨τ, M, Dd, hs, hr, q, we, nc⟩ => nc.bk τ M σ H q .refl hs hr⟩
theorem psd_cont : PSD X W (.Continue pos) dCont := ⟨PSimp ps_continue fun De σ H ⟨τ, M, Dd, hs, hr, q, we, nc⟩ => nc.ct τ M σ H q .refl hs hr⟩
/-- what an expression lets out -/
abbrev exOf (Dn : DN) (τ : Sl) : EK := fun x M => Dn.ex x τ M
def dDrop (te : DE) : DS := fun Dn τ M => te τ M (fun _ M1 => Dn.nx τ M1) (exOf Dn τ)
theorem psd_expr (he : PD X W e te) (hs : swapsWith e none pos.line X.env = pure false := by rfl) : PSD X W (.Expr e pos) (dDrop te) :=
  ⟨PSimp (ps_expr he.run hs) fun De σ H ⟨τ, M, Dd, hs, hr, q, we, nc⟩ => ⟨τ, M, _, _, hs, hr, q, fun x M' h => we x τ M' h, fun d M1 v H1 q1 e1 r1 h1 => nc.nx τ M1 σ H1 q1 e1 (hs.mono e1) h1⟩⟩
def dRet (te : DE) : DS := fun Dn τ M => te τ M Dn.rt (exOf Dn τ)
theorem psd_ret (he : PD X W e te) : PSD X W (.Return (some e) pos) (dRet te) :=
  ⟨PSimp (ps_ret he.run) fun De σ H ⟨τ, M, Dd, hs, hr, q, we, nc⟩ => ⟨τ, M, _, _, hs, hr, q, fun x M' h => we x τ M' h, fun d M1 v H1 q1 e1 r1 h1 => nc.rt d M1 v H1 q1 e1 r1 h1⟩⟩
def dRetN : DS := fun Dn τ M => Dn.rt .non M
theorem psd_retN : PSD X W (.Return none pos) dRetN := ⟨PSimp ps_retN fun De σ H ⟨τ, M, Dd, hs, hr, q, we, nc⟩ => nc.rt .non M .non H q .refl .non hr⟩
def dIfS (c : DT) (t u : DS) : DS := fun Dn τ M => c τ M (fun b M1 => if b = true then t Dn τ M1 else u Dn τ M1) (exOf Dn τ)
theorem psd_if {c : Expr} {a b : List Stmt} {tc : DT} (hc : PTD X W c tc) (ha : PSsD X W a t) (hb : PSsD X W b u) : PSD X W (.If c a b pos) (dIfS tc t u) :=
  ⟨PSimp (ps_if hc.run ha.run hb.run) fun De σ H ⟨τ, M, Dd, hs, hr, q, we, nc⟩ => ⟨τ, M, _, _, hs, hr, q, fun x M' h => we x τ M' h, fun b M1 H1 q1 e1 h1 => by
    cases b with
    | true => exact ⟨τ, M1, Dd, hs.mono e1, h1, (by simpa using q1), we, nc.mono e1⟩
    | false => exact ⟨τ, M1, Dd, hs.mono e1, h1, (by simpa using q1), we, nc.mono e1⟩⟩⟩
def dNever : DS := fun _ _ _ => False
theorem psd_never : PSD X W st dNever := ⟨PSimp ps_never fun De σ H ⟨_, _, _, _, _, q, _⟩ => q⟩
/-- e if c else e' -/
def dIfE (c : DT) (t u : DE) : DE := fun τ M Q E => c τ M (fun b M1 => if b = true then t τ M1 Q E else u τ M1 Q E) E
theorem pd_ifE {c a b : Expr} {tc : DT} {ta tb : DE} (hc : PTD X W c tc) (ha : PD X W a ta) (hb : PD X W b tb) : PD X W (.IfExp c a b pos) (dIfE tc ta tb) :=
  ⟨PEimp (pe_ifExp hc.run ha.run hb.run) fun σ H Q ⟨τ, M, Qd, Ed, hs, hr, q, we, k⟩ => ⟨τ, M, _, Ed, hs, hr, q, we, fun b M1 H1 q1 e1 h1 => by
    cases b with
    | true => exact ⟨τ, M1, Qd, Ed, hs.mono e1, h1, (by simpa using q1), we, k.mono e1⟩
    | false => exact ⟨τ, M1, Qd, Ed, hs.mono e1, h1, (by simpa using q1), we, k.mono e1⟩⟩⟩
end

/-! ### targets -/
abbrev DGt := D → Sl → Mp → (Sl → Mp → Prop) → Prop
abbrev DGs := List D → Sl → Mp → (Sl → Mp → Prop) → Prop
section
variable (K : PySem.W.Frag)
def liftG (H0 : Hp) (g : DGt) : TG := fun v σ H Q => ∃ d τ M Qd, Rp K H v d ∧ RS K H0 H σ τ ∧ HR K H M ∧ g d τ M Qd ∧ ∀ τ' M' σ' H', Qd τ' M' → TExt K H H' → RS K H0 H' σ' τ' → HR K H' M' → Q σ' H'
def liftGs (H0 : Hp) (g : DGs) : TGs := fun vs σ H Q => ∃ ds τ M Qd, RpL K H vs ds ∧ RS K H0 H σ τ ∧ HR K H M ∧ g ds τ M Qd ∧ ∀ τ' M' σ' H', Qd τ' M' → TExt K H H' → RS K H0 H' σ' τ' → HR K H' M' → Q σ' H'
end
section
variable {X : Cx} {W : DW} {pos : Pos}
structure PGD (X : Cx) (H0 : Hp) (tg : Expr) (g : DGt) : Prop where
  run : PG X tg (liftG X.K H0 g)
structure PGsD (X : Cx) (H0 : Hp) (tg : List Expr) (g : DGs) : Prop where
  run : PGs X tg (liftGs X.K H0 g)
theorem PGimp {tg : Expr} {t t' : TG} (h : PG X tg t) (i : ∀ v σ H Q, t' v σ H Q → t v σ H Q) : PG X tg t' := ⟨fun pins s σ H v u Q I r q => h.run pins s σ H v u Q I r (i v σ H Q q)⟩
theorem PGsimp {tg : List Expr} {t t' : TGs} (h : PGs X tg t) (i : ∀ v σ H Q, t' v σ H Q → t v σ H Q) : PGs X tg t' := ⟨fun pins s σ H v u Q I r q => h.run pins s σ H v u Q I r (i v σ H Q q)⟩
def dName (i : Nat) : DGt := fun d τ M Q => Q (τ.set i (some d)) M
theorem pgd_name {H0 : Hp} {i : Nat} {tg : Expr} (h : PG X tg (gName i)) : PGD X H0 tg (dName i) := ⟨PGimp h fun v σ H Q ⟨d, τ, M, Qd, r, hs, hr, q, k⟩ => k _ M _ H q .refl (hs.set r) hr⟩
def dGNil : DGs := fun ds τ M Q => match ds with | [] => Q τ M | _ => False
def dGCons (g : DGt) (gs : DGs) : DGs := fun ds τ M Q => match ds with | d :: r => g d τ M (fun τ1 M1 => gs r τ1 M1 Q) | [] => False
theorem pgsd_nil {H0 : Hp} : PGsD X H0 [] dGNil := ⟨PGsimp pgs_nil fun vs σ H Q ⟨ds, τ, M, Qd, r, hs, hr, q, k⟩ => by
  unfold dGNil at q
  split at q
  · exact ⟨r.nil_of, k τ M σ H q .refl hs hr⟩
  · exact q.elim⟩
theorem pgsd_cons {H0 : Hp} {e : Expr} {es : List Expr} {g : DGt} {gs : DGs} (h1 : PGD X H0 e g) (h2 : PGsD X H0 es gs)
    (hs : (assignEach (e :: es) X.env).map (·.2) = assign e X.env :: (assignEach es X.env).map (·.2) := by rfl) : PGsD X H0 (e :: es) (dGCons g gs) := ⟨PGsimp (pgs_cons h1.run h2.run hs) fun vs σ H Q ⟨ds, τ, M, Qd, r, hs, hr, q, k⟩ => by
  unfold dGCons at q
  split at q
  · rename_i d dr
    cases r with
    | cons rv rl =>
      refine ⟨_, _, rfl, d, τ, M, _, rv, hs, hr, q, fun τ1 M1 σ1 H1 q1 e1 hs1 hr1 => ?_⟩
      exact ⟨dr, τ1, M1, Qd, rl.mono e1, hs1, hr1, q1, fun τ2 M2 σ2 H2 q2 e2 => k τ2 M2 σ2 H2 q2 (e1.trans e2)⟩
  · exact q.elim⟩
/-- a tuple or a list taken apart -/
def dGTup (n : Nat) (gs : DGs) : DGt := fun d τ M Q => match d with
  | .tup ds => ds.length = n ∧ gs ds τ M Q
  | .ref a => match seqOf M a with
    | some ds => ds.length = n ∧ gs ds τ M Q
    | none => False
  | _ => False
theorem PGor {tg : Expr} {t t' : TG} (h : PG X tg t) (h' : PG X tg t') : PG X tg (fun v σ H Q => t v σ H Q ∨ t' v σ H Q) := ⟨fun pins s σ H v u Q I r q => q.elim (fun z => h.run pins s σ H v u Q I r z) fun z => h'.run pins s σ H v u Q I r z⟩
theorem pgd_tup {H0 : Hp} {es : List Expr} {k : Nat} {gs : DGs} {n : Nat} (hc : X.calm = true) (h : PGsD X H0 es gs)
    (hn : (assignEach es X.env).length = n := by rfl) (hst : (assignEach es X.env).findIdx? (·.1) = none := by rfl) : PGD X H0 (.Tuple es k pos) (dGTup n gs) :=
  ⟨PGimp (PGor (pg_tup hc h.run hn hst) (pg_lst hc h.run hn hst)) fun v σ H Q ⟨d, τ, M, Qd, r, hs, hr, q, k⟩ => by
    unfold dGTup at q
    split at q
    · obtain ⟨a, vs, rfl, s, l⟩ := r.toTup
      exact .inl ⟨a, vs, rfl, s, by rw [l.length]; exact q.1, _, τ, M, Qd, l, hs, hr, q.2, k⟩
    · split at q
      · rename_i ds e
        obtain ⟨vs, s, l⟩ := seqOf_ok hr e
        exact .inr ⟨_, vs, r.toRef, s, by rw [l.length]; exact q.1, _, τ, M, Qd, l, hs, hr, q.2, k⟩
      · exact q.elim
    · exact q.elim⟩
/-- o[i] = .. of a list -/
def dGSub (to ti : DE) : DGt := fun v τ M Q => to τ M (fun o M1 => ti τ M1 (fun i M2 => match o, i with
  | .ref a, .int k => match M2 a with
    | some (.lst xs) => match ixN xs.length k with
      | some j => Q τ (put M2 a (.lst (xs.set j v)))
      | none => False
    | _ => False
  | _, _ => False) fun _ _ => False) fun _ _ => False
theorem pgd_sub {o i : Expr} {to ti : DE} (ho : PD X W o to) (hi : PD X W i ti)
    (ha : ∀ v, assign (.Subscript o i pos) X.env v = (do
      let ov ← holding [v] (eval o X.env)
      let iv ← holding [v, ov] (eval i X.env)
      standAt pos
      holding [v, ov, iv] (setItem ov iv v)
      release [v, ov, iv] []) := by intro _; rfl) : PGD X W.h0 (.Subscript o i pos) (dGSub to ti) :=
  ⟨PGimp (pg_sub ho.run hi.run set_list ha) fun v σ H Q ⟨d, τ, M, Qd, r, hs, hr, q, k⟩ => ⟨τ, M, _, _, hs, hr, q, fun _ _ z => z.elim, fun od M1 ov H1 q1 e1 r1 h1 =>
    ⟨τ, M1, _, _, hs.mono e1, h1, q1, fun _ _ z => z.elim, fun id M2 iv H2 q2 e2 r2 h2 => by
      dsimp only at q2
      split at q2
      · rename_i a kk
        split at q2
        · rename_i xs ea
          split at q2
          · rename_i j ej
            obtain ⟨vs, hv, l⟩ := h2.lst ea
            have e3 : TExt X.K H2 (upd H2 a (.lst (vs.set j v))) := .upd (noTup_lst hv)
            refine ⟨a, vs, kk, j, (r1.mono e2).toRef, r2.toInt, hv, by rw [l.length]; exact ej, ?_⟩
            exact k τ _ σ _ q2 (e1.trans (e2.trans e3)) (hs.mono (e1.trans (e2.trans e3))) (h2.made (noTup_lst hv) ⟨_, upd_same, ((l.set (r.mono (e1.trans e2)) j)).mono e3⟩)
          · exact q2.elim
        · exact q2.elim
      · exact q2.elim⟩⟩⟩
/-- target = value -/
def dAsg (te : DE) (g : DGt) : DS := fun Dn τ M => te τ M (fun d M1 => g d τ M1 Dn.nx) (exOf Dn τ)
theorem psd_asg {tg e : Expr} {te : DE} {g : DGt} (he : PD X W e te) (hg : PGD X W.h0 tg g) (hs : swapsWithSole [tg] e pos.line X.env = pure false := by rfl) (hw : swappedStores [tg] e X.env = pure none := by rfl)
    (h1 : (assignEach [tg] X.env).map (·.2) = [assign tg X.env] := by rfl) : PSD X W (.Assign [tg] e pos) (dAsg te g) :=
  ⟨PSimp (ps_asg he.run hg.run hs hw h1) fun De σ H ⟨τ, M, Dd, hs, hr, q, we, nc⟩ => ⟨τ, M, _, _, hs, hr, q, fun x M' h => we x τ M' h, fun d M1 v H1 q1 e1 r1 h1 =>
    ⟨d, τ, M1, _, r1, hs.mono e1, h1, q1, fun τ' M' σ' H' q' e' hs' hr' => nc.nx τ' M' σ' H' q' (e1.trans e') hs' hr'⟩⟩⟩
/-- name = value -/
theorem psd_set {i : Nat} {x : Str} {e : Expr} {te : DE} {pos' : Pos} (hN : X.N.Nodup) (hi : X.N[i]? = some x) (hx : Loc X.env.scope x) (he : PD X W e te) (hs : swapsWith e (some (.Name x pos')) pos.line X.env = pure false := by rfl) (hf : X.fn x = true ∨ X.env.scope.names.lookup x = some .local := by first | exact .inl rfl | exact .inr rfl | assumption) :
    PSD X W (.Assign [.Name x pos'] e pos) (dAsg te (dName i)) :=
  ⟨PSimp (ps_set hN hi hx he.run hs hf) fun De σ H ⟨τ, M, Dd, hs, hr, q, we, nc⟩ => ⟨τ, M, _, _, hs, hr, q, fun x M' h => we x τ M' h, fun d M1 v H1 q1 e1 r1 h1 =>
    nc.nx _ M1 _ H1 q1 e1 ((hs.mono e1).set r1) h1⟩⟩
/-- name op= e -/
def dAug (i : Nat) (te : DE) (g : DO) : DS := fun Dn τ M => match slot τ i with
  | some x => te τ M (fun y M1 => g x y M1 (fun z M2 => Dn.nx (τ.set i (some z)) M2)) (exOf Dn τ)
  | none => False
theorem psd_aug {i : Nat} {x : Str} {e : Expr} {te : DE} {op : Operator} {g : DO} {pos' : Pos} (hN : X.N.Nodup) (hi : X.N[i]? = some x) (hx : Loc X.env.scope x) (he : PD X W e te) (ho : OpR X (inplaceOp op) (liftO X.K g)) (hf : X.fn x = true ∨ X.env.scope.names.lookup x = some .local := by first | exact .inl rfl | exact .inr rfl | assumption) :
    PSD X W (.AugAssign (.Name x pos') op e pos) (dAug i te g) :=
  ⟨PSimp (ps_aug hN hi hx he.run (ti := liftO X.K g) ho hf) fun De σ H ⟨τ, M, Dd, hs, hr, q, we, nc⟩ => by
    unfold dAug at q
    split at q
    · rename_i d ed
      obtain ⟨v, ev, rv⟩ := hs.at_ i d (slot_eq ed)
      refine ⟨v, ev, τ, M, _, _, hs, hr, q, fun x M' h => we x τ M' h, fun y M1 u H1 q1 e1 r1 h1 => ?_⟩
      exact ⟨d, y, M1, _, q1, rv.mono e1, r1, h1, fun z M2 w H2 q2 e2 r2 h2 => nc.nx _ M2 _ H2 q2 (e1.trans e2) ((hs.mono (e1.trans e2)).set r2) h2⟩
    · exact q.elim⟩
theorem iop_addI : OpR X (inplaceOp .Add) (liftO X.K (oI0 fun i j => .int (i + j))) := oI0_of iop_add fun _ _ _ => .int _
theorem iop_subI : OpR X (inplaceOp .Sub) (liftO X.K (oI0 fun i j => .int (i - j))) := oI0_of iop_sub fun _ _ _ => .int _
/-- o.f = value -/
def putFD (f : Str) (v : D) : List (Str × D) → List (Str × D)
  | [] => [(f, v)]
  | p :: r => if p.1 = f then (p.1, v) :: r else p :: putFD f v r
theorem FD.put {K : PySem.W.Frag} {H : Hp} {f : Str} {v : V} {d : D} (r : Rp K H v d) : ∀ {vs : List (Str × V)} {fs : List (Str × D)}, FD K H vs fs → FD K H (putF f v vs) (putFD f d fs)
  | [], [], _ => ⟨rfl, r, trivial⟩
  | (p1, p2) :: ps, (q1, q2) :: qs, ⟨e, r', l⟩ => by
    simp only at e
    subst e
    unfold putF putFD
    by_cases c : p1 = f
    · simp only [c, if_true]; exact ⟨rfl, r, l⟩
    · simp only [c, if_false]; exact ⟨rfl, r', FD.put r l⟩
  | [], _ :: _, h => h.elim
  | _ :: _, [], h => h.elim
theorem FD.length {K : PySem.W.Frag} {H : Hp} : ∀ {vs : List (Str × V)} {fs : List (Str × D)}, FD K H vs fs → vs.length = fs.length
  | [], [], _ => rfl
  | _ :: _, _ :: _, ⟨_, _, l⟩ => by simp [FD.length l]
  | [], _ :: _, h => h.elim
  | _ :: _, [], h => h.elim
theorem FD.look_none {K : PySem.W.Frag} {H : Hp} {f : Str} : ∀ {vs : List (Str × V)} {fs : List (Str × D)}, FD K H vs fs → fs.lookup f = none → vs.lookup f = none
  | [], [], _, _ => rfl
  | (p1, p2) :: ps, (q1, q2) :: qs, ⟨e, r', l⟩, h => by
    simp only at e
    subst e
    by_cases c : (f == p1) = true
    · rw [List.lookup_cons, c] at h; cases h
    · have c' : (f == p1) = false := by simpa using c
      rw [List.lookup_cons, c'] at h ⊢
      exact FD.look_none l h
  | [], _ :: _, h, _ => h.elim
  | _ :: _, [], h, _ => h.elim
def dFldS (K : PySem.W.Frag) (to te : DE) (f : Str) : DS := fun Dn τ M => te τ M (fun v M1 => to τ M1 (fun o M2 => match o with
  | .ref a => match M2 a with
    | some (.ins C fs) => FldK K C f ∧ fs.length < 1000 ∧ Dn.nx τ (put M2 a (.ins C (putFD f v fs)))
    | _ => False
  | _ => False) (exOf Dn τ)) (exOf Dn τ)
theorem psd_fld {o e : Expr} {to te : DE} {f : Str} {pos' : Pos} (ho : PD X W o to) (he : PD X W e te) (hs : swapsWith e (some (.Attribute o f pos')) pos.line X.env = pure false := by rfl) : PSD X W (.Assign [.Attribute o f pos'] e pos) (dFldS X.K to te f) :=
  ⟨PSimp (ps_fld ho.run he.run hs) fun De σ H ⟨τ, M, Dd, hs, hr, q, we, nc⟩ => ⟨τ, M, _, _, hs, hr, q, fun x M' h => we x τ M' h, fun d M1 v H1 q1 e1 r1 h1 =>
    ⟨τ, M1, _, _, hs.mono e1, h1, q1, fun x M' h => we x τ M' h, fun od M2 ov H2 q2 e2 r2 h2 => by
      dsimp only at q2
      split at q2
      · rename_i a
        split at q2
        · rename_i C fs ea
          obtain ⟨⟨c, n⟩, hl, q2⟩ := q2
          obtain ⟨dx, vs, hv, fd⟩ := h2.ins ea
          have e3 : TExt X.K H2 (upd H2 a (.ins C dx (putF f v vs))) := .upd (noTup_ins hv)
          refine ⟨a, C, dx, vs, r2.toRef, hv, c, n, by rw [fd.length]; exact hl, ?_⟩
          exact nc.nx τ _ σ _ q2 (e1.trans (e2.trans e3)) (hs.mono (e1.trans (e2.trans e3))) (h2.made (noTup_ins hv) ⟨dx, _, upd_same, (FD.put (r1.mono e2) fd).mono e3⟩)
        · exact q2.elim
      · exact q2.elim⟩⟩⟩
end

/-! ### while -/
section
variable {X : Cx} {W : DW} {pos : Pos}
def dWhN (c : DT) (tb : DS) : Nat → DN → Sl → Mp → Prop
  | 0, _, _, _ => False
  | n + 1, Dn, τ, M => c τ M (fun b M1 => if b = true then tb { Dn with nx := dWhN c tb n Dn, ct := dWhN c tb n Dn, bk := Dn.nx } τ M1 else Dn.nx τ M1) (exOf Dn τ)
def dWhile (c : DT) (tb : DS) : DS := fun Dn τ M => ∃ n, dWhN c tb n Dn τ M
theorem psd_while {c : Expr} {body : List Stmt} {tc : DT} {tb : DS} (hp : PassesOwn (model X.prog X.w) X.A X.env X.xe) (hc : PTD X W c tc) (hb : PSsD X W body tb) : PSD X W (.While c body [] pos) (dWhile tc tb) :=
  ⟨PSimp (ps_while hp hc.run hb.run) fun De σ H ⟨τ, M, Dd, hs, hr, ⟨n, q⟩, we, nc⟩ => by
    refine ⟨fun m σ' H' => ∃ τ' M', TExt X.K H H' ∧ RS X.K W.h0 H' σ' τ' ∧ HR X.K H' M' ∧ dWhN tc tb m Dd τ' M', ⟨n, τ, M, .refl, hs, hr, q⟩, ?_⟩
    rintro m σ1 H1 ⟨τ1, M1, e1, hs1, hr1, q1⟩
    cases m with
    | zero => exact q1.elim
    | succ m =>
      refine ⟨τ1, M1, _, _, hs1, hr1, q1, fun x M' h => we x τ1 M' h, fun b M2 H2 q2 e2 h2 => ?_⟩
      cases b with
      | false => exact nc.nx τ1 M2 σ1 H2 (by simpa using q2) (e1.trans e2) (hs1.mono e2) h2
      | true =>
        simp only [if_true] at q2 ⊢
        refine ⟨fun σ' H' => ∃ τ' M', TExt X.K H H' ∧ RS X.K W.h0 H' σ' τ' ∧ HR X.K H' M' ∧ dWhN tc tb m Dd τ' M', fun σ' H' h => ⟨m, Nat.lt_succ_self m, h⟩, ?_⟩
        exact ⟨τ1, M2, _, hs1.mono e2, h2, q2, we, ⟨fun τ' M' σ' H' h e' hs' hr' => ⟨τ', M', e1.trans (e2.trans e'), hs', hr', h⟩, fun d M' v H' h e' => nc.rt d M' v H' h (e1.trans (e2.trans e')),
          fun τ' M' σ' H' h e' => nc.nx τ' M' σ' H' h (e1.trans (e2.trans e')), fun τ' M' σ' H' h e' hs' hr' => ⟨τ', M', e1.trans (e2.trans e'), hs', hr', h⟩⟩⟩⟩
end

/-! ### what is walked -/
/-- J walks its, as long as kp holds -/
structure ItOk (K : PySem.W.Frag) (H0 : Hp) (J : It) (its : List D) (kp : Mp → Prop) : Prop where
  small : its.length ≤ sizeLine
  go : ∀ i H M, TExt K H0 H → HR K H M → kp M → i < its.length → J.go i H
  stop : ∀ i H M, TExt K H0 H → HR K H M → kp M → its.length ≤ i → J.stop i H
  yld : ∀ i H M x H', TExt K H0 H → HR K H M → kp M → J.yld i H x H' → TExt K H H' ∧ (∀ M', HR K H M' → HR K H' M') ∧ ∀ d, its[i]? = some d → Rp K H' x d
abbrev DI := Sl → Mp → (List D → (Mp → Prop) → Mp → Prop) → EK → Prop
def liftI (K : PySem.W.Frag) (W : DW) (t : DI) : TI := fun σ H R => ∃ τ M Qd Ed, RS K W.h0 H σ τ ∧ HR K H M ∧ t τ M Qd Ed ∧ (∀ x M', Ed x M' → W.w x τ M') ∧ ∀ its kp J M' H', Qd its kp M' → TExt K H H' → HR K H' M' → ItOk K H' J its kp → R J H'
structure PID (X : Cx) (W : DW) (tg iter : Expr) (t : DI) : Prop where
  run : PI X tg iter (liftI X.K W t)
/-- what a value gives when it is walked -/
def itemsOf (d : D) (M : Mp) : Option (List D) := match d with
  | .tup xs => some xs
  | .ref a => seqOf M a
  | .str z => if z.length ≤ sizeLine then some (z.cps.toList.map fun c => .str ⟨#[c]⟩) else none
  | _ => none
def keepOf (d : D) (its : List D) : Mp → Prop := match d with
  | .ref a => fun M => seqOf M a = some its
  | _ => fun _ => True
def dIter (te : DE) : DI := fun τ M Q E => te τ M (fun d M1 => match itemsOf d M1 with
  | some its => Q its (keepOf d its) M1
  | none => False) E
section
variable {X : Cx} {W : DW} {tg : Expr} {pins : List (Addr × Obj)} {s : Shared} {σ : St} {H : Hp} {R : It → Hp → Prop} {E : Value → Shared → Prop}
theorem iter_lst {a : Addr} {xs : List V} (I : Inv X pins σ H s) (hq : SqL X.K H a xs) (q : R (Itl X.K a) H) : wpAny (model X.prog X.w) X.A (pyIter (.ref a)) (PIE X pins σ tg R) E s := by
  obtain ⟨its, rv, pl, hz⟩ := I.list hq
  refine wpAny_pyIter_list pl.isList ⟨s.heap.objs.size, [s.heap.objs.size], _, _, H, rfl, I.kept (t' := s.toks) fun b o e => Heap.get?_push_of_some _ e, turn_list a _, ⟨_, Heap.get?_push_size _ rfl, rfl, rfl⟩, fun b hb => ?_, q⟩
  obtain rfl : b = s.heap.objs.size := by simpa using hb
  exact I.fpOk (Nat.le_refl _) (I.hok.fresh (Nat.le_refl _))
theorem iter_tup {a : Addr} {xs : List V} (I : Inv X pins σ H s) (hq : SqT X.K H a xs) (q : R (Itt X.K a) H) : wpAny (model X.prog X.w) X.A (pyIter (.ref a)) (PIE X pins σ tg R) E s := by
  obtain ⟨its, rv, pl, hz⟩ := I.tuple hq
  refine wpAny_pyIter_tuple (show s.heap.IsTuple a its.toArray from pl) ⟨s.heap.objs.size, [s.heap.objs.size], _, _, H, rfl, I.kept (t' := s.toks) fun b o e => Heap.get?_push_of_some _ e, turn_tuple a _, ⟨_, Heap.get?_push_size _ rfl, rfl, rfl⟩, fun b hb => ?_, q⟩
  obtain rfl : b = s.heap.objs.size := by simpa using hb
  exact I.fpOk (Nat.le_refl _) (I.hok.fresh (Nat.le_refl _))
theorem iter_str {z : Str} {u : Value} (I : Inv X pins σ H s) (hu : RelV (.str z) u) (q : R (Its z) H) : wpAny (model X.prog X.w) X.A (pyIter u) (PIE X pins σ tg R) E s := by
  obtain ⟨t, rfl⟩ := hu
  cases ha : z.cps.all (· < 128) with
  | false => exact wpAny_pyIter_wide ha (pi_one (tk := s.toks) I _ (turn_str _ z t _ (.inr rfl)) ⟨_, Heap.get?_push_size _ rfl, rfl, rfl⟩ q)
  | true => exact wpAny_pyIter_ascii ha (pi_one (tk := s.toks) I _ (turn_str _ z t _ (.inl rfl)) ⟨_, Heap.get?_push_size _ rfl, rfl, rfl⟩ q)
theorem itOk_tup {K : PySem.W.Frag} {H : Hp} {a : Addr} {vs : List V} {ds : List D} (s : SqT K H a vs) (l : RpL K H vs ds) (z : vs.length ≤ sizeLine) : ItOk K H (Itt K a) ds fun _ => True where
  small := by rw [← l.length]; exact z
  go := fun i H1 M e _ _ hi => ⟨vs, vs[i]'(by rw [l.length]; exact hi), e.tup _ _ s, by simp⟩
  stop := fun i H1 M e _ _ hi => ⟨vs, e.tup _ _ s, by rw [l.length]; exact hi⟩
  yld := fun i H1 M x H2 e _ _ y => by
    obtain ⟨rfl, y⟩ := y
    have hx := y vs (e.tup _ _ s)
    refine ⟨.refl, fun _ h => h, fun d hd => ?_⟩
    obtain ⟨v, ev, rv⟩ := (l.mono e).get hd
    rw [hx] at ev
    cases ev
    exact rv
theorem itOk_lst {K : PySem.W.Frag} {H : Hp} {a : Addr} {vs : List V} {ds : List D} (l : RpL K H vs ds) (z : vs.length ≤ sizeLine) : ItOk K H (Itl K a) ds fun M => seqOf M a = some ds where
  small := by rw [← l.length]; exact z
  go := fun i H1 M e hr k hi => by
    obtain ⟨us, s, l'⟩ := seqOf_ok hr k
    exact ⟨us, us[i]'(by rw [l'.length]; exact hi), s, by simp⟩
  stop := fun i H1 M e hr k hi => by
    obtain ⟨us, s, l'⟩ := seqOf_ok hr k
    exact ⟨us, s, by rw [l'.length]; exact hi⟩
  yld := fun i H1 M x H2 e hr k y => by
    obtain ⟨rfl, y⟩ := y
    obtain ⟨us, s, l'⟩ := seqOf_ok hr k
    have hx := y us s
    refine ⟨.refl, fun _ h => h, fun d hd => ?_⟩
    obtain ⟨v, ev, rv⟩ := l'.get hd
    rw [hx] at ev
    cases ev
    exact rv
theorem itOk_str {K : PySem.W.Frag} {H : Hp} {z : Str} (hz : z.length ≤ sizeLine) : ItOk K H (Its z) (z.cps.toList.map fun c => D.str ⟨#[c]⟩) fun _ => True where
  small := by simpa [Str.length] using hz
  go := fun i H1 M e _ _ hi => show i < z.cps.size by simpa using hi
  stop := fun i H1 M e _ _ hi => show z.cps.size ≤ i by simpa using hi
  yld := fun i H1 M x H2 e _ _ y => by
    obtain ⟨rfl, c, hc, rfl⟩ := y
    refine ⟨.refl, fun _ h => h, fun d hd => ?_⟩
    rw [List.getElem?_map, Array.getElem?_toList, hc] at hd
    cases hd
    exact .str _
theorem itOk_rng {K : PySem.W.Frag} {H : Hp} {lo : Int} {n : Nat} (hz : n ≤ sizeLine) : ItOk K H (Itr lo n) ((List.range n).map fun i => D.int (lo + (i : Nat))) fun _ => True where
  small := by simpa using hz
  go := fun i H1 M e _ _ hi => show i < n by simpa using hi
  stop := fun i H1 M e _ _ hi => show n ≤ i by simpa using hi
  yld := fun i H1 M x H2 e _ _ y => by
    obtain ⟨rfl, rfl⟩ := y
    refine ⟨.refl, fun _ h => h, fun d hd => ?_⟩
    by_cases hi : i < n
    · rw [List.getElem?_map, List.getElem?_range hi] at hd
      cases hd
      exact .int _
    · rw [List.getElem?_eq_none (by simpa using hi)] at hd
      cases hd
theorem pid_any {e : Expr} {te : DE} (he : PD X W e te) : PID X W tg e (dIter te) := ⟨⟨fun pins s σ H R I ⟨τ, M, Qd, Ed, hs, hr, q, we, k⟩ => by
  refine thn (he.run.run pins s σ H (fun v H1 => ∃ d M1, Rp X.K H1 v d ∧ HR X.K H1 M1 ∧ TExt X.K H H1 ∧ match itemsOf d M1 with
    | some its => Qd its (keepOf d its) M1
    | none => False) I ⟨τ, M, _, Ed, hs, hr, q, we, fun d M1 v H1 q1 e1 r1 h1 => ⟨d, M1, r1, h1, e1, q1⟩⟩) fun u s1 ⟨v, H1, I1, rv, d, M1, r1, h1, e1, q1⟩ => ?_
  split at q1
  · rename_i its ei
    cases d with
    | tup xs =>
      obtain ⟨a, vs, rfl, sq, l⟩ := r1.toTup
      cases rv
      cases ei
      obtain ⟨_, _, _, z⟩ := I1.tuple sq
      exact iter_tup I1 sq (k _ _ _ M1 H1 q1 e1 h1 (itOk_tup sq l z))
    | ref a =>
      have ea := r1.toRef
      subst ea
      cases rv
      obtain ⟨vs, sq, l⟩ := seqOf_ok h1 ei
      obtain ⟨_, _, _, z⟩ := I1.list sq
      exact iter_lst I1 sq (k _ _ _ M1 H1 q1 e1 h1 (itOk_lst l z))
    | str z =>
      have ea := r1.toStr
      subst ea
      have ei' : (if z.length ≤ sizeLine then some (z.cps.toList.map fun c => D.str ⟨#[c]⟩) else none) = some its := ei
      by_cases c : z.length ≤ sizeLine
      · rw [if_pos c] at ei'
        cases ei'
        exact iter_str I1 rv (k _ _ _ M1 H1 q1 e1 h1 (itOk_str c))
      · rw [if_neg c] at ei'; cases ei'
    | _ => cases ei
  · exact q1.elim⟩⟩
end
end DL

set_option maxHeartbeats 4000000
namespace DL
open PySem L2
section
variable {X : Cx} {W : DW} {tg : Expr} {pos p : Pos} {ta : DA}
/-! ### range -/
def dRng1 (ta : DA) : DI := fun τ M Q E => ta τ M (fun ds M1 => match ds with
  | [.int j] => j ≤ 16777216 ∧ -(2 ^ 62) ≤ j ∧ Q ((List.range j.toNat).map fun i => D.int (i : Nat)) (fun _ => True) M1
  | _ => False) E
def dRng2 (ta : DA) : DI := fun τ M Q E => ta τ M (fun ds M1 => match ds with
  | [.int i, .int j] => (-(2 ^ 62) ≤ i ∧ i < 2 ^ 62 ∧ -(2 ^ 62) ≤ j ∧ j < 2 ^ 62) ∧ j - i ≤ 16777216 ∧ Q ((List.range (j - i).toNat).map fun k => D.int (i + (k : Nat))) (fun _ => True) M1
  | _ => False) E
theorem PIimp {iter : Expr} {t t' : TI} (h : PI X tg iter t) (i : ∀ σ H R, t' σ H R → t σ H R) : PI X tg iter t' := ⟨fun pins s σ H R I q => h.run pins s σ H R I (i σ H R q)⟩
theorem pid_rng1 {a : Expr} (hg : Gl X "range") (hm : X.mg "range" = none) (ha : PAD X W [a] ta) (hs : starEach [a] X.env = [(false, eval a X.env)] := by rfl) : PID X W tg (.Call (.Name "range" p) [a] [] pos) (dRng1 ta) :=
  ⟨PIimp (pi_range1 hg hm ha.run hs) fun σ H R ⟨τ, M, Qd, Ed, hs, hr, q, we, k⟩ => ⟨τ, M, _, Ed, hs, hr, q, we, fun ds M1 vs H1 q1 e1 r1 h1 => by
    split at q1
    · rename_i j
      obtain ⟨v, rfl, rv⟩ := r1.one
      obtain ⟨c1, c2, q1⟩ := q1
      refine ⟨j, by rw [rv.toInt], c2, by omega, k _ _ _ M1 H1 q1 e1 h1 ?_⟩
      have := itOk_rng (K := X.K) (H := H1) (lo := 0) (n := j.toNat) (by rw [sizeLine_eq]; omega)
      simpa using this
    · exact q1.elim⟩⟩
theorem pid_rng2 {a b : Expr} (hg : Gl X "range") (hm : X.mg "range" = none) (ha : PAD X W [a, b] ta) (hs : starEach [a, b] X.env = [(false, eval a X.env), (false, eval b X.env)] := by rfl) (hs2 : starEach [b] X.env = [(false, eval b X.env)] := by rfl) : PID X W tg (.Call (.Name "range" p) [a, b] [] pos) (dRng2 ta) :=
  ⟨PIimp (pi_range2 hg hm ha.run hs hs2) fun σ H R ⟨τ, M, Qd, Ed, hs, hr, q, we, k⟩ => ⟨τ, M, _, Ed, hs, hr, q, we, fun ds M1 vs H1 q1 e1 r1 h1 => by
    split at q1
    · rename_i i j
      obtain ⟨v, v', rfl, rv, rv'⟩ := r1.two
      obtain ⟨c1, c2, q1⟩ := q1
      refine ⟨i, j, by rw [rv.toInt, rv'.toInt], c1, k _ _ _ M1 H1 q1 e1 h1 (itOk_rng (by rw [sizeLine_eq]; omega))⟩
    · exact q1.elim⟩⟩

/-! ### for -/
def dLoop (g : DGt) (tb : DS) (kp : Mp → Prop) : List D → DN → Sl → Mp → Prop
  | [], Dn, τ, M => kp M ∧ Dn.nx τ M
  | d :: ds, Dn, τ, M => kp M ∧ g d τ M fun τ2 M2 => tb { Dn with nx := dLoop g tb kp ds Dn, ct := dLoop g tb kp ds Dn, bk := Dn.nx } τ2 M2
def dFor (ti : DI) (g : DGt) (tb : DS) : DS := fun Dn τ M => ti τ M (fun its kp M1 => dLoop g tb kp its Dn τ M1) (exOf Dn τ)
theorem psd_for {iter : Expr} {body : List Stmt} {ti : DI} {g : DGt} {tb : DS} (hp : PassesOwn (model X.prog X.w) X.A X.env X.xe) (hc : X.calm = true) (hi : PID X W tg iter ti) (hg : PGD X W.h0 tg g) (hb : PSsD X W body tb)
    (hs : ∀ x, foldedSetIterable iter X.env x = pure x := by intro _; rfl) : PSD X W (.For tg iter body [] pos) (dFor ti g tb) :=
  ⟨PSimp (ps_for hp hc hi.run hg.run hb.run hs) fun De σ H ⟨τ, M, Dd, hs, hr, q, we, nc⟩ => ⟨τ, M, _, _, hs, hr, q, fun x M' h => we x τ M' h, fun its kp J M1 H1 q1 e1 h1 ok => by
    refine ⟨fun i m σ' H' => m = its.length - i ∧ i ≤ its.length ∧ TExt X.K H1 H' ∧ ∃ τ' M', RS X.K W.h0 H' σ' τ' ∧ HR X.K H' M' ∧ dLoop g tb kp (its.drop i) Dd τ' M', ⟨_, rfl, Nat.zero_le _, .refl, τ, M1, hs.mono e1, h1, by simpa using q1⟩, ?_⟩
    rintro i m σ2 H2 ⟨rfl, hi, e2, τ2, M2, hs2, hr2, q2⟩
    by_cases hlt : i < its.length
    · rw [List.drop_eq_getElem_cons hlt] at q2
      obtain ⟨hk, q2⟩ := q2
      refine .inr ⟨ok.go i H2 M2 e2 hr2 hk hlt, fun σ' H' => TExt X.K H1 H' ∧ ∃ τ' M', RS X.K W.h0 H' σ' τ' ∧ HR X.K H' M' ∧ dLoop g tb kp (its.drop (i + 1)) Dd τ' M', fun σ' H' h => ⟨its.length - (i + 1), by omega, rfl, hlt, h.1, h.2⟩, fun x H3 y => ?_⟩
      obtain ⟨e3, k3, r3⟩ := ok.yld i H2 M2 x H3 e2 hr2 hk y
      have rx := r3 its[i] (by simp [hlt])
      refine ⟨its[i], τ2, M2, _, rx, hs2.mono e3, k3 _ hr2, q2, fun τ4 M4 σ4 H4 q4 e4 hs4 hr4 => ?_⟩
      exact ⟨τ4, M4, _, hs4, hr4, q4, we, ⟨fun τ' M' σ' H' h e' hs' hr' => ⟨e2.trans (e3.trans (e4.trans e')), τ', M', hs', hr', h⟩, fun d M' v H' h e' => nc.rt d M' v H' h (e1.trans (e2.trans (e3.trans (e4.trans e')))),
        fun τ' M' σ' H' h e' => nc.nx τ' M' σ' H' h (e1.trans (e2.trans (e3.trans (e4.trans e')))), fun τ' M' σ' H' h e' hs' hr' => ⟨e2.trans (e3.trans (e4.trans e')), τ', M', hs', hr', h⟩⟩⟩
    · have ei : i = its.length := by omega
      subst ei
      rw [List.drop_length] at q2
      exact .inl ⟨ok.stop _ H2 M2 e2 hr2 q2.1 (Nat.le_refl _), nc.nx τ2 M2 σ2 H2 q2.2 (e1.trans e2) hs2 hr2⟩⟩⟩

/-! ### comprehensions -/
def wipeD (τ : Sl) : List Nat → Sl
  | [] => τ
  | v :: vs => (wipeD τ vs).set v none
theorem wipeD_length (τ : Sl) : ∀ vs : List Nat, (wipeD τ vs).length = τ.length
  | [] => rfl
  | v :: vs => by unfold wipeD; rw [List.length_set, wipeD_length τ vs]
theorem wipeD_some {τ : Sl} {i : Nat} {x : D} : ∀ {vs : List Nat}, (wipeD τ vs)[i]? = some (some x) → τ[i]? = some (some x) ∧ i ∉ vs
  | [], h => ⟨h, by simp⟩
  | v :: vs, h => by
    unfold wipeD at h
    by_cases hi : v = i
    · subst hi
      by_cases hv : v < (wipeD τ vs).length
      · rw [List.getElem?_set_self hv] at h; cases h
      · rw [List.getElem?_eq_none (by simpa using hv)] at h; cases h
    · rw [List.getElem?_set_ne hi] at h
      obtain ⟨a, b⟩ := wipeD_some h
      exact ⟨a, by simpa using ⟨fun e => hi e.symm, b⟩⟩
theorem wipe_out' {σ : St} {i : Nat} : ∀ {vs : List Nat}, i ∉ vs → (wipe σ vs)[i]? = σ[i]?
  | [], _ => rfl
  | v :: vs, h => by
    have h' : v ≠ i ∧ i ∉ vs := by simpa [eq_comm] using h
    unfold wipe
    rw [List.getElem?_set_ne h'.1, wipe_out' h'.2]
theorem wipe_at {σ : St} {i : Nat} (hi : i < σ.length) : ∀ {vs : List Nat}, i ∈ vs → (wipe σ vs)[i]? = some none
  | v :: vs, h => by
    unfold wipe
    by_cases c : v = i
    · subst c; rw [List.getElem?_set_self (by rw [wipe_length]; exact hi)]
    · rw [List.getElem?_set_ne c]
      rcases List.mem_cons.mp h with h | h
      · exact absurd h.symm c
      · exact wipe_at hi h
theorem wipe_same {σ σ' : St} {vs : List Nat} (hl : σ'.length = σ.length) (h : ∀ i, i ∉ vs → σ'[i]? = σ[i]?) : wipe σ' vs = wipe σ vs := by
  apply List.ext_getElem?
  intro i
  by_cases c : i ∈ vs
  · by_cases hi : i < σ.length
    · rw [wipe_at hi c, wipe_at (by omega) c]
    · rw [List.getElem?_eq_none (by rw [wipe_length]; omega), List.getElem?_eq_none (by rw [wipe_length]; omega)]
  · rw [wipe_out' c, wipe_out' c, h i c]
theorem wipe_set {σ : St} {vs : List Nat} {i : Nat} {x : Option V} (h : i ∈ vs) : wipe ((wipe σ vs).set i x) vs = wipe σ vs := by
  apply wipe_same
  · simp [wipe_length]
  · intro j hj
    have : i ≠ j := fun e => hj (e ▸ h)
    rw [List.getElem?_set_ne this, wipe_out' hj]
theorem RS.wipe {K : PySem.W.Frag} {H0 H : Hp} {σ : St} {τ : Sl} (h : RS K H0 H σ τ) (vs : List Nat) (e : TExt K H1 H) : RS K H1 H (L2.wipe σ vs) (wipeD τ vs) := ⟨e, by rw [wipeD_length, wipe_length]; exact h.len, fun i d q => by
  obtain ⟨a, b⟩ := wipeD_some q
  obtain ⟨v, c, r⟩ := h.at_ i d a
  exact ⟨v, (wipe_out' b).trans c, r⟩⟩
def H0n : Hp := fun _ => none
theorem TExt.none {K : PySem.W.Frag} {H : Hp} : TExt K H0n H := ⟨fun a xs h => by
  rcases h with (h | ⟨o, h⟩) | h
  · cases h
  · cases h
  · exact .inr h, fun a o u h => by cases h⟩
/-- within a comprehension nothing is let out -/
def W0 : DW := ⟨H0n, fun _ _ _ => False⟩
def noE : EK := fun _ _ => False
/-- one clause; p is the list that grows -/
def dCL (g : D → Sl → Sl) (tt : DT) (te : DE) (kp : Mp → Prop) (p : Addr) (τ : Sl) (F : Mp → Prop) : List D → Mp → Prop
  | [], M => kp M ∧ F M
  | d :: ds, M => kp M ∧ tt (g d τ) M (fun b M1 => if b = true then te (g d τ) M1 (fun y M2 => match M2 p with
      | some (.lst acc) => acc.length < sizeLine ∧ dCL g tt te kp p τ F ds (put M2 p (.lst (acc ++ [y])))
      | _ => False) noE else dCL g tt te kp p τ F ds M1) noE
def dLc (ti : DI) (g : D → Sl → Sl) (tt : DT) (te : DE) (vs : List Nat) : DE := fun τ M Q E => ti τ M (fun its kp M1 => ∀ p, M1 p = none → dCL g tt te kp p (wipeD τ vs) (fun M2 => Q (.ref p) M2) its (put M1 p (.lst []))) E
structure PTsD (X : Cx) (W : DW) (ifs : List Expr) (t : DT) : Prop where
  run : PTs X ifs (liftT X.K W t)
def dYes : DT := fun _ M Q _ => Q true M
theorem PTsimp {ifs : List Expr} {t t' : TT} (h : PTs X ifs t) (i : ∀ σ H Q, t' σ H Q → t σ H Q) : PTs X ifs t' := ⟨fun pins s σ H Q I q => h.run pins s σ H Q I (i σ H Q q)⟩
theorem ptsd_nil : PTsD X W [] dYes := ⟨PTsimp pts_nil fun σ H Q ⟨τ, M, Qd, Ed, hs, hr, q, we, k⟩ => k true M H q .refl hr⟩
theorem ptsd_one {c : Expr} {t : DT} (h : PTD X W c t) : PTsD X W [c] t := ⟨pts_one h.run⟩
/-- the core, for a target that is one name -/
theorem lc_read {ti : DI} {tt : DT} {te : DE} {i : Nat} {vs : List Nat} {K : PySem.W.Frag} (hi : i ∈ vs) {σ : St} {H : Hp} {Q : VK} (h : liftE K W (dLc ti (fun d τ => τ.set i (some d)) tt te vs) σ H Q) :
    tLc (liftI K W ti) (gName i) (liftT K W0 tt) (liftE K W0 te) vs σ H Q := by
  obtain ⟨τ, M, Qd, Ed, hs, hr, q, we, k⟩ := h
  refine ⟨τ, M, _, Ed, hs, hr, q, we, fun its kp J M1 H1 q1 e1 h1 ok D hD => ?_⟩
  have q2 := q1 D (h1.free hD)
  have e2 : TExt K H1 (upd H1 D (.lst [])) := .new hD
  refine ⟨fun i m H' => m = its.length - i ∧ i ≤ its.length ∧ TExt K (upd H1 D (.lst [])) H' ∧ ∃ M', HR K H' M' ∧ dCL (fun d τ => τ.set _ (some d)) tt te kp D (wipeD τ vs) (fun M2 => Qd (.ref D) M2) (its.drop i) M', ⟨_, rfl, Nat.zero_le _, .refl, _, h1.made (o := .lst []) (noTup_none hD) ⟨[], upd_same, .nil⟩, by simpa using q2⟩, ?_⟩
  rintro j m H2 ⟨rfl, hj, e3, M2, hr2, q3⟩
  by_cases hlt : j < its.length
  · rw [List.drop_eq_getElem_cons hlt] at q3
    obtain ⟨hk, q3⟩ := q3
    refine .inr ⟨ok.go j H2 M2 (e2.trans e3) hr2 hk hlt, fun H' => TExt K (upd H1 D (.lst [])) H' ∧ ∃ M', HR K H' M' ∧ dCL (fun d τ => τ.set _ (some d)) tt te kp D (wipeD τ vs) (fun M2 => Qd (.ref D) M2) (its.drop (j + 1)) M', fun H' h => ⟨its.length - (j + 1), by omega, rfl, hlt, h.1, h.2⟩, fun x H3 y => ?_⟩
    obtain ⟨e4, k4, r4⟩ := ok.yld j H2 M2 x H3 (e2.trans e3) hr2 hk y
    have rx := r4 its[j] (by simp [hlt])
    have hs3 : RS K W0.h0 H3 ((wipe σ vs).set i (some x)) ((wipeD τ vs).set i (some its[j])) := ((hs.mono (e1.trans (e2.trans (e3.trans e4)))).wipe vs .none).set rx
    refine ⟨wipe_set hi, _, M2, _, _, hs3, k4 _ hr2, q3, fun _ _ z => z.elim, fun b M4 H4 q4 e5 h4 => ?_⟩
    cases b with
    | false => exact ⟨e3.trans (e4.trans e5), M4, h4, by simpa using q4⟩
    | true =>
      simp only [if_true] at q4 ⊢
      refine ⟨_, M4, _, _, hs3.mono e5, h4, q4, fun _ _ z => z.elim, fun y M5 v H5 q5 e6 r5 h5 => ?_⟩
      dsimp only at q5
      split at q5
      · rename_i acc ea
        obtain ⟨us, hu, l⟩ := h5.lst ea
        have e7 : TExt K H5 (upd H5 D (.lst (us ++ [v]))) := .upd (noTup_lst hu)
        refine ⟨us, hu, by rw [l.length]; exact q5.1, e3.trans (e4.trans (e5.trans (e6.trans e7))), _, h5.made (o := .lst (acc ++ [y])) (noTup_lst hu) ⟨_, upd_same, (l.append (.cons r5 .nil)).mono e7⟩, q5.2⟩
      · exact q5.elim
  · have ei : j = its.length := by omega
    subst ei
    rw [List.drop_length] at q3
    exact .inl ⟨ok.stop _ H2 M2 (e2.trans e3) hr2 q3.1 (Nat.le_refl _), k _ M2 _ H2 q3.2 (e1.trans (e2.trans e3)) (.ref D) hr2⟩
section
variable {elt iter : Expr} {ifs : List Expr} {scope : Scope} {own : List (Str × Nat)} {ti : DI} {tt : DT} {te : DE} {i : Nat}
theorem pd_lc (hc : X.calm = true) (hN : X.N.Nodup) (hi : PID X W tg iter ti) (ok : BlkOk X.N X.env.scope scope own) (hv : i ∈ own.map (·.2))
    (hg : ∀ (s : Shared) (H : Hp) (C : Addr) (cl : List (Str × Addr)) (fp : List Addr), PG (X.blk s H scope (compEnvC scope cl C X.env) fp) tg (gName i))
    (ht : ∀ (s : Shared) (H : Hp) (C : Addr) (cl : List (Str × Addr)) (fp : List Addr), PTsD (X.blk s H scope (compEnvC scope cl C X.env) fp) W0 ifs tt)
    (he : ∀ (s : Shared) (H : Hp) (C : Addr) (cl : List (Str × Addr)) (fp : List Addr), PD (X.blk s H scope (compEnvC scope cl C X.env) fp) W0 elt te) (hs : ∀ x, foldedSetIterable iter X.env x = pure x := by intro _; rfl) :
    PD X W (.ListComp elt [⟨tg, iter, ifs, 0⟩] scope pos) (dLc ti (fun d τ => τ.set i (some d)) tt te (own.map (·.2))) :=
  ⟨PEimp (pe_lc hc hN hi.run ok hg (fun s H C cl fp => (ht s H C cl fp).run) (fun s H C cl fp => (he s H C cl fp).run) hs) fun σ H Q h => lc_read hv h⟩
/-- name = [..] on one line -/
theorem psd_setLc {j : Nat} {y : Str} {py spos : Pos} (hc : X.calm = true) (hN : X.N.Nodup) (hy : X.N[j]? = some y) (hyl : X.env.scope.names.lookup y = some .local)
    (hsw : swapsWith (.ListComp elt [⟨tg, iter, ifs, 0⟩] scope pos) (some (.Name y py)) spos.line X.env = pure true) (hi : PID X W tg iter ti) (ok : BlkOk X.N X.env.scope scope own) (hv : i ∈ own.map (·.2))
    (hg : ∀ (s : Shared) (H : Hp) (C : Addr) (cl : List (Str × Addr)) (fp : List Addr), PG (X.blk s H scope (compEnvC scope cl C X.env) fp) tg (gName i))
    (ht : ∀ (s : Shared) (H : Hp) (C : Addr) (cl : List (Str × Addr)) (fp : List Addr), PTsD (X.blk s H scope (compEnvC scope cl C X.env) fp) W0 ifs tt)
    (he : ∀ (s : Shared) (H : Hp) (C : Addr) (cl : List (Str × Addr)) (fp : List Addr), PD (X.blk s H scope (compEnvC scope cl C X.env) fp) W0 elt te) (hs : ∀ x, foldedSetIterable iter X.env x = pure x := by intro _; rfl) :
    PSD X W (.Assign [.Name y py] (.ListComp elt [⟨tg, iter, ifs, 0⟩] scope pos) spos) (dAsg (dLc ti (fun d τ => τ.set i (some d)) tt te (own.map (·.2))) (dName j)) :=
  ⟨PSimp (ps_setLc hc hN hy hyl hsw hi.run ok hg (fun s H C cl fp => (ht s H C cl fp).run) (fun s H C cl fp => (he s H C cl fp).run) hs) fun De σ H ⟨τ, M, Dd, hs, hr, q, we, nc⟩ =>
    lc_read hv ⟨τ, M, _, _, hs, hr, q, fun x M' h => we x τ M' h, fun d M1 v H1 q1 e1 r1 h1 => nc.nx _ M1 _ H1 q1 e1 ((hs.mono e1).set r1) h1⟩⟩
end
end

/-! ### defs -/
/-- a promise over plain data -/
abbrev DSp := List D → Mp → DK → EK → Prop
def XC (K : PySem.W.Frag) (H : Hp) (Ed : EK) (E : XK) : Prop := ∀ x M' cls d H', Ed x M' → TExt K H H' → XR K H' cls d x → HR K H' M' → E cls d H'
def liftSp (K : PySem.W.Frag) (sp : DSp) : Sp := fun vs H Q E => ∃ ds M Qd Ed, sp ds M Qd Ed ∧ RpL K H vs ds ∧ HR K H M ∧ KC K H Qd Q ∧ XC K H Ed E
/-- the def that the module's name x holds -/
structure FnD (P : Program) (w : World) (K : PySem.W.Frag) (mg : Str → Option Value) (base : Heap) (k : Nat) (x : Str) (ps : List Str) (dds : List D) (sp : DSp) : Prop where
  ex : ∃ (f : Addr) (fd : FuncData) (dvs : List V) (ds : List Value), FnOk P w K mg base (L2.CX P w) k f fd ps (liftSp K sp) ∧ mg x = some (.ref f) ∧ PySem.W.keepIn K (.ref f) = true ∧ Binds K fd ps ds ∧ Vals dvs ds ∧ ∀ H, RpL K H dvs dds
theorem FnD.mono {P : Program} {w : World} {K : PySem.W.Frag} {mg : Str → Option Value} {base : Heap} {j k : Nat} {x : Str} {ps : List Str} {dds : List D} {sp : DSp} (F : FnD P w K mg base j x ps dds sp) (h : j ≤ k) : FnD P w K mg base k x ps dds sp := by
  obtain ⟨f, fd, dvs, ds, F, r⟩ := F.ex
  exact ⟨f, fd, dvs, ds, F.mono h, r⟩
theorem FnD.imp {P : Program} {w : World} {K : PySem.W.Frag} {mg : Str → Option Value} {base : Heap} {k : Nat} {x : Str} {ps : List Str} {dds : List D} {sp sp' : DSp} (F : FnD P w K mg base k x ps dds sp) (h : ∀ ds M Q E, sp' ds M Q E → sp ds M Q E) : FnD P w K mg base k x ps dds sp' := by
  obtain ⟨f, fd, dvs, ds, F, r⟩ := F.ex
  exact ⟨f, fd, dvs, ds, F.imp fun vs H Q E ⟨ds, M, Qd, Ed, q, r⟩ => ⟨ds, M, Qd, Ed, h _ _ _ _ q, r⟩, r⟩
def dCall (sp : DSp) (dds : List D) (t : DA) : DE := fun τ M Q E => t τ M (fun ds M1 => sp (ds ++ dds) M1 Q E) E
section
variable {X : Cx} {W : DW} {k : Nat} {x : Str} {ps : List Str} {dds : List D} {sp : DSp} {p pos apos : Pos} {e o : Expr} {es : List Expr} {t : DA} {to : DE}
theorem spIn {dvs : List V} {H1 : Hp} {σ : St} {τ : Sl} {M1 : Mp} {Qd : DK} {Ed : EK} {Q : VK} {vs : List V} {ds : List D} (hs : RS X.K W.h0 H1 σ τ) (q : sp ds M1 Qd Ed) (r : RpL X.K H1 vs ds) (hr : HR X.K H1 M1) (we : ∀ x M', Ed x M' → W.w x τ M') (k : KC X.K H1 Qd Q) :
    liftSp X.K sp vs H1 Q (WE (liftW X.K W) σ) :=
  ⟨ds, M1, Qd, Ed, q, r, hr, k, fun x M' cls d H' h e xr hr' => ⟨x, τ, M', hs.mono e, hr', xr, we x M' h⟩⟩
theorem pd_call (F : FnD X.prog X.w X.K X.mg X.base k x ps dds sp) (hr : Room k X.A) (tk : Takes X (liftW X.K W)) (hg : Gl X x) (ha : PAD X W (e :: es) t)
    (hdb : (x == ("__debug__" : Str)) = false := by decide) (he : starEach (e :: es) X.env = (false, eval e X.env) :: starEach es X.env := by rfl) (hpl : (backTo pos (starEach es X.env)).any (·.1) = false := by rfl) :
    PD X W (.Call (.Name x p) (e :: es) [] pos) (dCall sp dds t) := by
  obtain ⟨f, fd, dvs, ds0, F, hm, hk, hb, hd, hdd⟩ := F.ex
  exact ⟨PEimp (pe_callSD F hr hg hm hk hb hd (fun σ => passAt tk σ) ha.run hdb he hpl) fun σ H Q ⟨τ, M, Qd, Ed, hs, hr, q, we, k⟩ => ⟨τ, M, _, Ed, hs, hr, q, we, fun ds M1 vs H1 q1 e1 r1 h1 =>
    spIn (dvs := dvs) (hs.mono e1) q1 (r1.append (hdd H1)) h1 we (k.mono e1)⟩⟩
theorem pd_call0 (F : FnD X.prog X.w X.K X.mg X.base k x ps dds sp) (hr : Room k X.A) (tk : Takes X (liftW X.K W)) (hg : Gl X x) (hdb : (x == ("__debug__" : Str)) = false := by decide) : PD X W (.Call (.Name x p) [] [] pos) (dCall sp dds dNil) := by
  obtain ⟨f, fd, dvs, ds0, F, hm, hk, hb, hd, hdd⟩ := F.ex
  refine ⟨⟨fun pins s σ H Q I ⟨τ, M, Qd, Ed, hs, hr', q, we, k⟩ => ?_⟩⟩
  refine wpAny_Call_Name_kw (ld_glob I hg hm ?_ hdb)
  exact PySem.W.callWith_K0 I.kIn hk (run_fnSD (us := []) (vs := []) (E := WE (liftW X.K W)) F hr hb hd (passAt tk σ) I .nil (spIn (dvs := dvs) hs q (by simpa using hdd H) hr' we k))
end
end DL

set_option maxHeartbeats 4000000
namespace DL
open PySem L2
open PyProof.Rows (envOfC Subscript_)

/-! ### a def keeps its promise -/
def dstart (N : List Str) (ds : List D) : Sl := ds.map some ++ List.replicate (N.length - ds.length) none
/-- at a def's end what is no more asked is dropped -/
def dropQ (Q : DK) : DK := fun d M => ∃ M0, Sub M0 M ∧ Q d M0
def dropE (E : EK) : EK := fun x M => ∃ M0, Sub M0 M ∧ E x M0
theorem dropQ_of {Q : DK} {d : D} {M M' : Mp} (h : Q d M) (s : Sub M M') : dropQ Q d M' := ⟨M, s, h⟩
theorem dropE_of {E : EK} {d : DX} {M M' : Mp} (h : E d M) (s : Sub M M') : dropE E d M' := ⟨M, s, h⟩
/-- what a body is to reach -/
def ends (Q : DK) (E : EK) : DN := { nx := fun _ M => dropQ Q .non M, rt := dropQ Q, ex := fun x _ M => dropE E x M }
/-- what a def may let out: some promise's -/
def defW (K : PySem.W.Frag) (H : Hp) (E : XK) : DW := ⟨H, fun x _ M => ∀ H' cls d, TExt K H H' → XR K H' cls d x → HR K H' M → E cls d H'⟩
theorem rs_start {K : PySem.W.Frag} {H : Hp} {N : List Str} {vs : List V} {ds : List D} (r : RpL K H vs ds) : RS K H H (L2.start N vs) (dstart N ds) := ⟨.refl, by simp [L2.start, dstart, r.length], fun i d q => by
  unfold dstart at q
  unfold L2.start
  by_cases hi : i < ds.length
  · rw [List.getElem?_append_left (by simpa using hi), List.getElem?_map] at q
    rw [List.getElem?_append_left (by simpa [r.length] using hi), List.getElem?_map]
    cases e : ds[i]? with
    | none => rw [e] at q; cases q
    | some d' =>
      rw [e] at q
      cases q
      obtain ⟨v, ev, rv⟩ := r.get e
      exact ⟨v, by rw [ev]; rfl, rv⟩
  · rw [List.getElem?_append_right (by simpa using hi)] at q
    have : ∀ (n j : Nat), (List.replicate n (none : Option D))[j]? ≠ some (some d) := fun n j h => by
      have := List.mem_of_getElem? h
      simp at this
    exact absurd q (this _ _)⟩
section
variable {P : Program} {w : World} {K : PySem.W.Frag} {mg : Str → Option Value} {base : Heap}
/-- THE RULE for a def: its body as a term of rules, and that term's reading for every plain datum -/
theorem okD {x qual : Str} {st : Stmt} {f : Addr} {fd : FuncData} {N ps : List Str} {k : Nat} {sp : DSp} (F : L2.Fun K x qual st f fd) (S : FnScope N ps (defScope st)) (len : ∀ ds M Q E, sp ds M Q E → ds.length = ps.length)
    (hbody : ∀ (cdv : Value) (A : Around) (outer : List Env) (s : Shared) (H : Hp) (E : XK), Room k (A.deeper (envOfC qual (defScope st) s.heap.objs.size f cdv)) →
      Takes (cxOf (L2.CX P w) P w K mg base N qual (defScope st) f cdv A outer s H E) (liftW K (defW K H E)) →
      ∃ t, PSsD (cxOf (L2.CX P w) P w K mg base N qual (defScope st) f cdv A outer s H E) (defW K H E) (defBody st) t ∧ ∀ ds M Q E', sp ds M Q E' → t (ends Q E') (dstart N ds) M) :
    FnOk P w K mg base (L2.CX P w) (k + 1) f fd ps (liftSp K sp) := by
  refine F.okX S (fun vs H Q E ⟨ds, M, Qd, Ed, hsp, r, _⟩ => r.length.trans (len ds M Qd Ed hsp)) fun cdv A outer s H vs Q E hr ⟨ds, M, Qd, Ed, hsp, r, hr', kc, xc⟩ => ?_
  obtain ⟨t, ht, q⟩ := hbody cdv A outer s H E hr (Takes.imp (takes_of rfl rfl rfl rfl) fun c d σ H' ⟨x, τ, M', rs, h2, xr, hw⟩ => hw H' c d rs.ext xr h2)
  refine ⟨_, ht.run, dstart N ds, M, ends Qd Ed, rs_start r, hr', q ds M Qd Ed hsp, fun x τ M' ⟨M0, sb, h⟩ H' cls d e xr h2 => xc x M0 cls d H' h e xr (h2.sub sb), ?_⟩
  exact ⟨fun τ M' σ H' ⟨M0, sb, h⟩ e _ h2 => kc _ M0 _ H' h e .non (h2.sub sb), fun d M' v H' ⟨M0, sb, h⟩ e rv h2 => kc d M0 v H' h e rv (h2.sub sb), fun _ _ _ _ z => z.elim, fun _ _ _ _ z => z.elim⟩
theorem fnd_mk {x qual : Str} {st : Stmt} {f : Addr} {fd : FuncData} {ps : List Str} {k : Nat} {sp : DSp} (F : L2.Fun K x qual st f fd) (m : mg x = some (.ref f)) (b : Binds K fd ps []) (h : FnOk P w K mg base (L2.CX P w) k f fd ps (liftSp K sp)) : FnD P w K mg base k x ps [] sp :=
  ⟨f, fd, [], [], h, m, F.kp, b, .nil, fun _ => .nil⟩
/-- the method m of the class at C -/
structure MetD (P : Program) (w : World) (K : PySem.W.Frag) (mg : Str → Option Value) (base : Heap) (k : Nat) (C : Addr) (m : Str) (ps : List Str) (dds : List D) (sp : DSp) : Prop where
  ex : ∃ (f : Addr) (fd : FuncData) (dvs : List V) (ds : List Value), Cls K C ∧ Meth K C m f ∧ FnOk P w K mg base (L2.CX P w) k f fd ps (liftSp K sp) ∧ Binds K fd ps ds ∧ Vals dvs ds ∧ ∀ H, RpL K H dvs dds
/-- the class x at C, made -/
structure MakD (P : Program) (w : World) (K : PySem.W.Frag) (mg : Str → Option Value) (base : Heap) (k : Nat) (x : Str) (C : Addr) (ps : List Str) (dds : List D) (sp : DSp) : Prop where
  ex : ∃ (f : Addr) (fd : FuncData) (dvs : List V) (ds : List Value), Mk K C f ∧ mg x = some (.ref C) ∧ FnOk P w K mg base (L2.CX P w) k f fd ps (liftSp K sp) ∧ Binds K fd ps ds ∧ Vals dvs ds ∧ ∀ H, RpL K H dvs dds
end
def dMeth (C : Addr) (m : Str) (sp : DSp) (dds : List D) (to : DE) (t : DA) : DE := fun τ M Q E => to τ M (fun o M1 => match o with
  | .ref a => match M1 a with
    | some (.ins C' fs) => C' = C ∧ fs.lookup m = none ∧ t τ M1 (fun ds M2 => sp (.ref a :: (ds ++ dds)) M2 Q E) E
    | _ => False
  | _ => False) E
def dMake (C : Addr) (sp : DSp) (dds : List D) (t : DA) : DE := fun τ M Q E => t τ M (fun ds M1 => ∀ x, M1 x = none → sp (.ref x :: (ds ++ dds)) (put M1 x (.ins C [])) (fun d M2 => d = .non ∧ Q (.ref x) M2) E) E
/-- o[i] by an own __getitem__ -/
def dIxO (C : Addr) (sp : DSp) (to ti : DE) : DE := fun τ M Q E => to τ M (fun o M1 => ti τ M1 (fun i M2 => match o with
  | .ref a => match M2 a with
    | some (.ins C' _) => C' = C ∧ sp [.ref a, i] M2 Q E
    | _ => False
  | _ => False) E) E
section
variable {X : Cx} {W : DW} {k : Nat} {C : Addr} {x m : Str} {ps : List Str} {dds : List D} {sp : DSp} {p pos apos : Pos} {e o : Expr} {es : List Expr} {t : DA} {to ti : DE}
theorem methS {f : Addr} {fd : FuncData} {dvs : List V} {ds0 : List Value} {pl : Sem Bool} {args : List Expr} {ta : TA} {E : St → XK} {to' : TE} {sp' : Sp} (hT : PE X o to') (cl : Cls X.K C) (hm : Meth X.K C m f) (F : FnOk X.prog X.w X.K X.mg X.base (L2.CX X.prog X.w) k f fd ps sp') (hr : Room k X.A)
    (hb : Binds X.K fd ps ds0) (hd : Vals dvs ds0) (hx : ∀ σ, PassesAt (L2.CX X.prog X.w) X σ (E σ))
    (run : ∀ {pins : List (Addr × Obj)} {s : Shared} {σ : St} {H : Hp} {a : Addr} {Q : VK}, Inv X pins σ H s → ta σ H (fun vs H2 => sp' (.ref a :: (vs ++ dvs)) H2 Q (E σ)) →
      wpAny (model X.prog X.w) X.A (callWith pos (.ref f) [.ref a] (backTo pos (starEach args X.env)) (backToKw pos (keywordEach [] X.env))) (EP X pins σ Q) X.xe s)
    (ht : eval (.Call (.Attribute o m apos) args [] pos) X.env = (do
      let ov ← eval o X.env
      standAt apos.atName
      let (f, first) ← holding [ov] (getMethod ov m pl)
      callWith pos f first (backTo pos (starEach args X.env)) (backToKw pos (keywordEach [] X.env)))) :
    PE X (.Call (.Attribute o m apos) args [] pos) (fun σ H Q => to' σ H fun v H1 => ∃ a dx fs, v = .ref a ∧ H1 a = some (.ins C dx fs) ∧ fs.lookup m = none ∧ ta σ H1 fun vs H2 => sp' (.ref a :: (vs ++ dvs)) H2 Q (E σ)) :=
  ⟨fun pins s σ H Q I h => PySem.W.methodCall_KW (pl := pl) (thn (hT.run pins s σ H _ I h) fun u s1 ⟨v, H1, I1, rv, a, dx, fs, ev, ea, l, q⟩ => by
    subst ev
    cases (show u = Value.ref a from rv)
    exact getmeth_ok I1 ea cl hm l (run I1 q)) ht⟩
theorem pd_meth {pl : Sem Bool} (F : MetD X.prog X.w X.K X.mg X.base k C m ps dds sp) (hr : Room k X.A) (tk : Takes X (liftW X.K W)) (ho : PD X W o to) (ha : PAD X W (e :: es) t)
    (hst : starEach (e :: es) X.env = (false, eval e X.env) :: starEach es X.env := by rfl) (hpl : (backTo pos (starEach es X.env)).any (·.1) = false := by rfl)
    (ht : eval (.Call (.Attribute o m apos) (e :: es) [] pos) X.env = (do
      let ov ← eval o X.env
      standAt apos.atName
      let (f, first) ← holding [ov] (getMethod ov m pl)
      callWith pos f first (backTo pos (starEach (e :: es) X.env)) (backToKw pos (keywordEach [] X.env))) := by rfl) : PD X W (.Call (.Attribute o m apos) (e :: es) [] pos) (dMeth C m sp dds to t) := by
  obtain ⟨f, fd, dvs, ds0, cl, hm, F, hb, hd, hdd⟩ := F.ex
  refine ⟨PEimp (methS (E := WE (liftW X.K W)) (ta := liftA X.K W t) ho.run cl hm F hr hb hd (fun σ => passAt tk σ) (fun {pins s σ H a Q} I h => ?_) ht) fun σ H Q ⟨τ, M, Qd, Ed, hs, hr, q, we, k⟩ => ⟨τ, M, _, Ed, hs, hr, q, we, fun d M1 v H1 q1 e1 r1 h1 => ?_⟩⟩
  · refine PySem.W.callWith_K (first := [.ref a]) (h₀ := X.base) I.ok.mod.kin hm.kp (thn (ha.run.run pos pins s σ H _ I h) fun us s2 ⟨vs, H2, I2, r, q2⟩ => ⟨I2.kIn, ?_⟩) hst hpl
    exact run_fnSD (us := .ref a :: us) (vs := .ref a :: vs) F hr hb hd (passAt tk σ) I2 (.cons rfl r) q2
  · dsimp only at q1
    split at q1
    · rename_i a
      split at q1
      · rename_i C' fs ea
        obtain ⟨rfl, hl, q1⟩ := q1
        obtain ⟨dx, vs, hv, fdd⟩ := h1.ins ea
        refine ⟨a, dx, vs, r1.toRef, hv, fdd.look_none hl, τ, M1, _, Ed, hs.mono e1, h1, q1, we, fun ds M2 us H2 q2 e2 r2 h2 => ?_⟩
        exact spIn (dvs := dvs) (hs.mono (e1.trans e2)) q2 (.cons (.ref a) (r2.append (hdd H2))) h2 we (k.mono (e1.trans e2))
      · exact q1.elim
    · exact q1.elim
theorem pd_meth0 {pl : Sem Bool} (F : MetD X.prog X.w X.K X.mg X.base k C m ps dds sp) (hr : Room k X.A) (tk : Takes X (liftW X.K W)) (ho : PD X W o to)
    (ht : eval (.Call (.Attribute o m apos) [] [] pos) X.env = (do
      let ov ← eval o X.env
      standAt apos.atName
      let (f, first) ← holding [ov] (getMethod ov m pl)
      callWith pos f first (backTo pos (starEach [] X.env)) (backToKw pos (keywordEach [] X.env))) := by rfl) : PD X W (.Call (.Attribute o m apos) [] [] pos) (dMeth C m sp dds to dNil) := by
  obtain ⟨f, fd, dvs, ds0, cl, hm, F, hb, hd, hdd⟩ := F.ex
  refine ⟨PEimp (methS (E := WE (liftW X.K W)) (ta := tNil) ho.run cl hm F hr hb hd (fun σ => passAt tk σ) (fun {pins s σ H a Q} I h => ?_) ht) fun σ H Q ⟨τ, M, Qd, Ed, hs, hr, q, we, k⟩ => ⟨τ, M, _, Ed, hs, hr, q, we, fun d M1 v H1 q1 e1 r1 h1 => ?_⟩⟩
  · exact PySem.W.callWith_K0 (first := [.ref a]) I.kIn hm.kp (run_fnSD (us := [.ref a]) (vs := [.ref a]) F hr hb hd (passAt tk σ) I (.cons rfl .nil) h)
  · dsimp only at q1
    split at q1
    · rename_i a
      split at q1
      · rename_i C' fs ea
        obtain ⟨rfl, hl, q1⟩ := q1
        obtain ⟨dx, vs, hv, fdd⟩ := h1.ins ea
        exact ⟨a, dx, vs, r1.toRef, hv, fdd.look_none hl, spIn (dvs := dvs) (hs.mono e1) q1 (.cons (.ref a) (by simpa using hdd H1)) h1 we (k.mono e1)⟩
      · exact q1.elim
    · exact q1.elim
/-- a new instance and its __init__, what is raised wished for at the slots -/
theorem makeS {f : Addr} {fd : FuncData} {dvs : List V} {ds0 : List Value} {pins : List (Addr × Obj)} {σ : St} {H : Hp} {s : Shared} {Q : VK} {us : List Value} {vs : List V} {E : XK} {sp' : Sp} (M : Mk X.K C f) (F : FnOk X.prog X.w X.K X.mg X.base (L2.CX X.prog X.w) k f fd ps sp') (hr : Room (k + 1) X.A)
    (hb : Binds X.K fd ps ds0) (hd : Vals dvs ds0) (hx : PassesAt (L2.CX X.prog X.w) X σ E) (I : Inv X pins σ H s) (r : Vals vs us)
    (h : ∀ x dx, H x = none → H dx = none → dx ≠ x → sp' (.ref x :: (vs ++ dvs)) (upd (upd H dx (.own x)) x (.ins C dx [])) (fun v H2 => v = .non ∧ Q (.ref x) H2) E) :
    wpAny (model X.prog X.w) X.A (call (.ref C) us) (EP X pins σ Q) X.xe s := by
  have n0 : s.heap.objs.size ≠ s.heap.objs.size + 1 := by omega
  have hq := h (s.heap.objs.size + 1) s.heap.objs.size (I.hok.fresh (by omega)) (I.hok.fresh (Nat.le_refl _)) n0
  have J := Inv.made (C := C) I
  have r2 : Vals (V.ref (s.heap.objs.size + 1) :: (vs ++ dvs)) (Value.ref (s.heap.objs.size + 1) :: (us ++ ds0)) := .cons rfl (r.append hd)
  have hl : (Value.ref (s.heap.objs.size + 1) :: us ++ ds0).length = ps.length := (F.len _ _ _ _ hq ▸ r2.length).symm
  refine wpAny_call (make_map (f := f) I.kIn M.makes M.init (beq_iff_eq.mp M.fn) (codeAny_mono (F.run _ X.stack _ _ ⟨Value.ref (s.heap.objs.size + 1) :: us, []⟩ _ _ _ E (hr.make C us []) (J.env0.make C us [])
    (hb _ (Value.ref (s.heap.objs.size + 1) :: us) J.kIn hl) r2 hq) fun res s' hq' => ?_))
  cases res with
  | error e => exact hx pins _ _ e s' J hq'
  | ok fl =>
    cases fl with
    | ret u =>
      obtain ⟨v, H', J2, rv, ev, q3⟩ := J.after hq'
      subst ev
      exact ⟨rv, ⟨V.ref (s.heap.objs.size + 1), H', J2, rfl, q3⟩⟩
    | _ => exact False.elim hq'
theorem HR.newIns {K : PySem.W.Frag} {H : Hp} {M : Mp} {x dx : Addr} (hr : HR K H M) (hx : H x = .none) (hd : H dx = .none) (n : dx ≠ x) : HR K (upd (upd H dx (.own x)) x (.ins C dx [])) (put M x (.ins C [])) :=
  (hr.fresh hd).made (noTup_none (by rw [upd_ne (Ne.symm n)]; exact hx)) ⟨dx, [], upd_same, trivial⟩
theorem TExt.newIns {K : PySem.W.Frag} {H : Hp} {x dx : Addr} (hx : H x = .none) (hd : H dx = .none) (n : dx ≠ x) : TExt K H (L2.upd (L2.upd H dx (.own x)) x (.ins C dx [])) :=
  (TExt.new hd).trans (TExt.new ((upd_ne (Ne.symm n)).trans hx))
theorem pd_make (F : MakD X.prog X.w X.K X.mg X.base k x C ps dds sp) (hr : Room (k + 1) X.A) (tk : Takes X (liftW X.K W)) (hg : Gl X x) (ha : PAD X W (e :: es) t)
    (hdb : (x == ("__debug__" : Str)) = false := by decide) (he : starEach (e :: es) X.env = (false, eval e X.env) :: starEach es X.env := by rfl) (hpl : (backTo pos (starEach es X.env)).any (·.1) = false := by rfl) :
    PD X W (.Call (.Name x p) (e :: es) [] pos) (dMake C sp dds t) := by
  obtain ⟨f, fd, dvs, ds0, M, hm, F, hb, hd, hdd⟩ := F.ex
  refine ⟨⟨fun pins s σ H Q I ⟨τ, Mm, Qd, Ed, hs, hr', q, we, k⟩ => wpAny_Call_Name_kw (ld_glob I hg hm ?_ hdb)⟩⟩
  refine PySem.W.callWith_K (h₀ := X.base) I.ok.mod.kin M.kp (thn (ha.run.run pos pins s σ H (fun vs H1 => ∀ a dx, H1 a = none → H1 dx = none → dx ≠ a → liftSp X.K sp (.ref a :: (vs ++ dvs)) (upd (upd H1 dx (.own a)) a (.ins C dx [])) (fun v H2 => v = .non ∧ Q (.ref a) H2) (WE (liftW X.K W) σ)) I
    ⟨τ, Mm, _, Ed, hs, hr', q, we, fun ds M1 vs H1 q1 e1 r1 h1 a dx ha hdx n => ?_⟩) fun us s1 ⟨vs, H1, I1, r, q1⟩ => ⟨I1.kIn, makeS M F hr hb hd (passAt tk σ) I1 r q1⟩) he hpl
  have e2 : TExt X.K H1 (upd (upd H1 dx (.own a)) a (.ins C dx [])) := .newIns ha hdx n
  exact spIn (dvs := dvs) (Qd := fun d M2 => d = .non ∧ Qd (.ref a) M2) (hs.mono (e1.trans e2)) (q1 a (h1.free ha)) (.cons (.ref a) ((r1.mono e2).append (hdd _))) (h1.newIns ha hdx n) we
    fun d M' v H' ⟨ed, h⟩ e' rv h' => ⟨by subst ed; exact rv.toNon, k _ M' _ H' h (e1.trans (e2.trans e')) (.ref a) h'⟩
/-- in a call's inner room -/
theorem run1 {f : Addr} {fd : FuncData} {pins : List (Addr × Obj)} {σ : St} {H : Hp} {s : Shared} {Q : VK} {us : List Value} {vs : List V} {E : XK} {sp' : Sp} (F : FnOk X.prog X.w X.K X.mg X.base (L2.CX X.prog X.w) k f fd ps sp') (hr : Room (k + 1) X.A) (hb : Binds X.K fd ps []) (hx : PassesAt (L2.CX X.prog X.w) X σ E)
    (I : Inv X pins σ H s) (r : Vals vs us) (h : sp' vs H Q E) : wpAny (model X.prog X.w) X.A.in1 (call (.ref f) us) (EP X pins σ Q) X.xe s := by
  have hl : (us ++ []).length = ps.length := by rw [List.append_nil, ← r.length]; exact F.len _ _ _ _ h
  have hb' := hb s us I.kIn hl
  rw [List.append_nil] at hb'
  refine wpAny_call (codeAny_mono (F.run X.A.in1 X.stack s H ⟨us, []⟩ us vs Q E hr.in1 I.env0.in1 hb' r h) fun res s' hq => ?_)
  cases res with
  | error e => exact hx pins H s e s' I hq
  | ok fl =>
    cases fl with
    | ret u => exact I.after hq
    | _ => exact False.elim hq
theorem pd_ixO {a b : Expr} (F : MetD X.prog X.w X.K X.mg X.base k C "__getitem__" ps [] sp) (hfn : ∀ f, PySem.W.findIn X.K (.ref C) "__getitem__" = some (some (.ref f)) → PySem.W.fnIn X.K f = true) (hr : Room (k + 1) X.A) (tk : Takes X (liftW X.K W)) (ho : PD X W a to) (hi : PD X W b ti)
    (hsl : ∀ x i, subscripted b true (.ref x) i = runValue (.builtin "lifetime.subscript" ⟨[.ref x, i], []⟩) := by intro _ _; with_unfolding_all rfl) : PD X W (.Subscript a b pos) (dIxO C sp to ti) := by
  obtain ⟨f, fd, dvs, ds0, cl, hm, F, hb, hd, hdd⟩ := F.ex
  have e0 : dvs = [] := (hdd H0n).nil_of
  subst e0
  have e1 : ds0 = [] := by cases hd; rfl
  subst e1
  refine ⟨⟨fun pins s σ H Q I ⟨τ, M, Qd, Ed, hs, hr', q, we, k⟩ => Subscript_ (binT (R := fun x y H2 => ∃ a dx fs, x = .ref a ∧ H2 a = some (.ins C dx fs) ∧ liftSp X.K sp [.ref a, y] H2 Q (WE (liftW X.K W) σ)) ho.run hi.run I
    ⟨τ, M, _, Ed, hs, hr', q, we, fun od M1 ov H1 q1 e1 r1 h1 => ⟨τ, M1, _, Ed, hs.mono e1, h1, q1, we, fun y M2 yv H2 q2 e2 r2 h2 => ?_⟩⟩ fun v u s2 x y H2 I2 rx ry ⟨a, dx, fs, ex, ea, q2⟩ => ?_)⟩⟩
  · dsimp only at q2
    split at q2
    · rename_i a
      split at q2
      · rename_i C' fs ea
        obtain ⟨rfl, q2⟩ := q2
        obtain ⟨dx, vs, hv, _⟩ := h2.ins ea
        exact ⟨a, dx, vs, (r1.mono e2).toRef, hv, spIn (dvs := []) (hs.mono (e1.trans e2)) q2 (.cons (.ref a) (.cons r2 .nil)) h2 we (k.mono (e1.trans e2))⟩
      · exact q2.elim
    · exact q2.elim
  · subst ex
    cases (show v = Value.ref a from rx)
    obtain ⟨m, Fr⟩ := I2.fr
    obtain ⟨mA, O, _⟩ := ins_get I2.hok ea
    obtain ⟨od, J, _⟩ := O.look
    exact PySem.W.sub_K Fr I2.ok.mod.kin J hm.at_ (hfn f hm.at_) hm.fn (run1 F hr hb (passAt tk σ) I2 (.cons (show RelV (.ref a) (.ref a) from rfl) (.cons ry .nil)) q2) (hsl a u)
end
end DL

set_option maxHeartbeats 4000000
namespace DL
open PySem L2
section
variable {X : Cx} {W : DW} {pos p p2 np pos' : Pos}
/-- what the written part says of an exception class of the program, without its own __init__ -/
structure ExcK (K : PySem.W.Frag) (mg : Str → Option Value) (x : Str) (C : Addr) : Prop where
  q : PySem.W.excIn K C [.type "ValueError", .type "Exception", .type "BaseException", .type "object"] "ValueError.__new__" = true
  m : mg x = some (.ref C)
  k : PySem.W.keepIn K (.ref C) = true
  s : PySem.W.subIn K (.ref C) (.type "BaseException") = some true
  t : PySem.W.typeIn K (.ref C) = some (.type "type")
def dRaise (C : Addr) : DS := fun Dn τ M => Dn.ex ⟨.ref C, none, []⟩ τ M
theorem psd_raise {x m : Str} {C : Addr} {j : Nat} (E : ExcK X.K X.mg x C) (hc : X.calm = true) (tk : Takes X (liftW X.K W)) (hg : Gl X x) (hdb : (x == ("__debug__" : Str)) = false := by decide) :
    PSD X W (.Raise (some (.Call (.Name x p) [.Constant (.str m) j p2] [] pos')) none pos) (dRaise C) :=
  ⟨PSimp (ps_raise hc tk (pmk_own PySem.F.excBase_ValueError E.q E.m E.k (raises_own E.s E.t) hg hdb)) fun De σ H ⟨τ, M, Dd, hs, hr, q, we, nc⟩ =>
    ⟨⟨.ref C, none, []⟩, τ, M, hs, hr, ⟨rfl, rfl, fun dx e => by cases e⟩, we _ τ M q⟩⟩
theorem RS.setN {K : PySem.W.Frag} {H0 H : Hp} {σ : St} {τ : Sl} (h : RS K H0 H σ τ) (i : Nat) : RS K H0 H (σ.set i none) (τ.set i none) := ⟨h.ext, by simpa using h.len, fun j e q => by
  by_cases c : i = j
  · subst c
    by_cases hi : i < τ.length
    · rw [List.getElem?_set_self hi] at q; cases q
    · rw [List.getElem?_eq_none (by simpa using hi)] at q; cases q
  · rw [List.getElem?_set_ne c] at q ⊢
    exact h.at_ j e q⟩
/-- the exception's own attributes beside the rest -/
def caught (x : DX) (M : Mp) : Mp := match x.d with
  | some dx => put M dx (.xd x.fs)
  | none => M
theorem caught_ok {K : PySem.W.Frag} {H : Hp} {M : Mp} {cls : Value} {d : Option Addr} {x : DX} (h : HR K H M) (xr : XR K H cls d x) : HR K H (caught x M) := by
  unfold caught
  obtain ⟨_, e, r⟩ := xr
  cases hd : x.d with
  | none => exact h
  | some dx =>
    intro a o q
    by_cases c : a = dx
    · subst c
      have q' : put M a (.xd x.fs) a = some o := q
      rw [put_same] at q'
      cases q'
      exact r a (by rw [e, hd])
    · have q' : put M dx (.xd x.fs) a = some o := q
      rw [put_ne c] at q'
      exact h a o q'
/-- what an exception of the body meets; c the class that is named, i the name's slot -/
def hAs (K : PySem.W.Frag) (c : Value) (i : Nat) (ts : DX → Addr → DS) (Dn : DN) : DX → Sl → Mp → Prop := fun x τ M =>
  ∃ b, PySem.W.exmOne K x.cls c = some b ∧ (b = true → ∀ a, M a = none → ts x a { nx := fun τ' M' => Dn.nx (τ'.set i none) M', rt := Dn.rt, bk := fun τ' M' => Dn.bk (τ'.set i none) M', ct := fun τ' M' => Dn.ct (τ'.set i none) M' } (τ.set i (some (.ref a))) (caught x M)) ∧
    (b = false → Dn.ex x τ M)
def dTryAs (K : PySem.W.Frag) (c : Value) (i : Nat) (t : DS) (ts : DX → Addr → DS) : DS := fun Dn τ M => t { Dn with ex := hAs K c i ts Dn } τ M
def Wn (H0 : Hp) : DW := ⟨H0, fun _ _ _ => False⟩
theorem RS.base {K : PySem.W.Frag} {H0 H1 H : Hp} {σ : St} {τ : Sl} (h : RS K H1 H σ τ) (e : TExt K H0 H) : RS K H0 H σ τ := ⟨e, h.len, h.at_⟩
theorem NC.base {K : PySem.W.Frag} {H0 H : Hp} {Dd : DN} {De : Ends} (h : NC K H0 H Dd De) (e : TExt K H0 H) : NC K H H Dd De :=
  ⟨fun τ M σ H' q x rs hr => h.nx τ M σ H' q x (rs.base (e.trans x)) hr, h.rt, fun τ M σ H' q x rs hr => h.bk τ M σ H' q x (rs.base (e.trans x)) hr, fun τ M σ H' q x rs hr => h.ct τ M σ H' q x (rs.base (e.trans x)) hr⟩
theorem psd_try_as {x n : Str} {c : Value} {i : Nat} {body suite : List Stmt} {b₀ : Stmt} {t : DS} {ts : DX → Addr → DS} (hs : X.stack = X.env :: X.outer) (hf : X.env.frame = some X.env.locals) (hN : X.N.Nodup) (hi : X.N[i]? = some n) (hln : X.env.kindOf n = some .local) (hc : Names X x c) (tk : Takes X (liftW X.K W))
    (hb : ∀ (W' : DW) (pn : List (Addr × Obj)) (xe : Value → Shared → Prop), Takes (X.tr pn xe) (liftW X.K W') → PassesOwn (model X.prog X.w) X.A X.env xe → PSsD (X.tr pn xe) W' body t)
    (hsu : ∀ (y : DX) (a : Addr) (oe : Obj) (pn : List (Addr × Obj)), Zc y.cls y.d oe → (∃ vs, oe.data = .fields vs) → PSsD (X.suite a ((a, oe) :: pn)) (Wn W.h0) (b₀ :: suite) (ts y a)) :
    PSD X W (.Try body [.ExceptHandler (some (.Name x np)) (some n) (b₀ :: suite) pos'] [] [] pos) (dTryAs X.K c i t ts) := by
  refine ⟨PSimp (ps_try_as (tb := fun Wx De σ H => ∃ W' : DW, (∀ cls d σ H, liftW X.K W' cls d σ H → Wx cls d σ H) ∧ liftS X.K W' t De σ H) (ts := fun a cls d De σ H => ∃ y, cls = y.cls ∧ d = y.d ∧ liftS X.K (Wn W.h0) (ts y a) De σ H)
    (Wout := liftW X.K W) hs hf hN hi hln hc tk (fun Wx pn xe htk hpo => ⟨fun pins s σ H De I ⟨W', hw, h⟩ => (hb W' pn xe (htk.imp hw) hpo).run.run pins s σ H De I h⟩) (fun a oe cls d pn hz hd => ⟨fun pins s σ H De I ⟨y, e1, e2, h⟩ => ?_⟩)) fun De σ H ⟨τ, M, Dd, hs, hr, q, we, nc⟩ => ?_⟩
  · subst e1; subst e2
    exact (hsu y a oe pn hz hd).run.run pins s σ H De I h
  · refine ⟨⟨H, fun y τ' M' => hAs X.K c i ts Dd y τ' M'⟩, ?_, τ, M, { Dd with ex := hAs X.K c i ts Dd }, hs.base .refl, hr, q, fun y τ' M' h => h, (nc.base hs.ext).nx, (nc.base hs.ext).rt, (nc.base hs.ext).bk, (nc.base hs.ext).ct⟩
    rintro cls d σ' H' ⟨y, τ', M', hs', hr', xr, b, hb1, hy, hn⟩
    refine ⟨b, by rw [xr.1]; exact hb1, fun eb a ha => ⟨y, xr.1, xr.2.1, τ'.set i (some (.ref a)), caught y M', _, (hs'.base (hs.ext.trans hs'.ext)).set (.ref a), caught_ok hr' xr, hy eb a (hr'.free ha), fun _ _ _ z => z.elim, ?_⟩, fun eb => ⟨y, τ', M', hs'.base (hs.ext.trans hs'.ext), hr', xr, we y τ' M' (hn eb)⟩⟩
    exact ⟨fun τ2 M2 σ2 H2 q2 e2 rs2 hr2 => nc.nx _ M2 _ H2 q2 (hs'.ext.trans e2) (rs2.setN i) hr2, fun d2 M2 v H2 q2 e2 => nc.rt d2 M2 v H2 q2 (hs'.ext.trans e2), fun τ2 M2 σ2 H2 q2 e2 rs2 hr2 => nc.bk _ M2 _ H2 q2 (hs'.ext.trans e2) (rs2.setN i) hr2, fun τ2 M2 σ2 H2 q2 e2 rs2 hr2 => nc.ct _ M2 _ H2 q2 (hs'.ext.trans e2) (rs2.setN i) hr2⟩
/-- isinstance(e, C) of the exception that the suite holds -/
def isxG (K : PySem.W.Frag) (y : DX) (a : Addr) : DG := fun ds M Q => match ds with
  | [.ref a', c] => a' = a ∧ y.d = none ∧ ∃ D b cv, y.cls = .ref D ∧ ExcC K D ∧ ((∃ C, c = .ref C ∧ cv = .ref C) ∨ ∃ n, c = .ty n ∧ cv = .type n) ∧ PySem.W.kitOne K (.ref D) cv = some b ∧ Q (.bl b) M
  | _ => False
theorem call_isxG {y : DX} {a : Addr} {oe : Obj} {pn : List (Addr × Obj)} (hz : Zc y.cls y.d oe) (hf : ∃ vs, oe.data = .fields vs) : CallR (X.suite a ((a, oe) :: pn)) (.builtin "isinstance") (liftC X.K (isxG X.K y a)) := by
  intro pins s σ H xs us Q I rs ⟨ds, M, Qd, q, r, hr, k⟩
  unfold isxG at q
  split at q
  · rename_i a' c
    obtain ⟨rfl, hd, D, b, cv, ec, C, hc, kk, q⟩ := q
    obtain ⟨v, v', rfl, rv, rv'⟩ := r.two
    obtain ⟨u1, u2, rfl, r1, r2⟩ := vals2 rs
    rw [rv.toRef] at r1
    cases (show u1 = Value.ref a' from r1)
    have e2 : u2 = cv := by
      rcases hc with ⟨C', rfl, rfl⟩ | ⟨n, rfl, rfl⟩
      · rw [rv'.toRef] at r2; exact r2
      · rw [rv'.toTy] at r2; exact r2
    subst e2
    obtain ⟨hget, _⟩ := I.pin (a', oe) (List.mem_append.mpr (.inl List.mem_cons_self))
    obtain ⟨vs, hv⟩ := hf
    have J : PySem.W.InstAt s.heap a' oe D none := ⟨hget, by rw [hz.1]; exact ec, by unfold PySem.W.notCls; rw [hv] <;> rfl, by rw [hz.2, hd]; trivial⟩
    exact PySem.W.kia_one (PySem.W.handS_kitx_exc C.hg C.hk C.hs C.hd C.ha C.hn C.ht C.hm) I.kIn J kk (fun z => nomatch z) fun tk => ⟨.bl b, H, I.kept (t' := tk) fun _ _ z => z, rfl, k _ M _ H q .refl (.bl _) hr⟩
  · exact q.elim
end
end DL

set_option maxHeartbeats 4000000
namespace PySem
namespace DLmul
open PySem.SeqAt
open PySem.AutoSeq1 (wpAny_loadPart')
open PySem.MeetsSeq PySem.MeetsSeq2 PySem.MeetsSeq3 PySem.SeqRoads2
/-- once, or an empty one: the tuple itself -/
theorem mul_self (l : Addr) (items : Array Value) (n : Nat) (dd : Option Addr) (sl : Array (Option Value)) (x : Int) (u : Tok) (c0 : (decide (x < -(2 ^ 63)) || decide (x ≥ 2 ^ 63)) = false) (c1 : (items.isEmpty || x == 1) = true) :
    Meets (Builtin.«tuple.__mul__» ⟨[.ref l, .int x u], []⟩) (fun _ R s => s.heap.get? l = some { cls := .type "tuple", dict := dd, data := .seq items n, slots := sl } ∧ R (.ok (.ret (.ref l))) s) :=
  .of_wp fun prog w A R s h => by
    obtain ⟨hp, g, d, tk, os⟩ := s
    obtain ⟨hl, h⟩ := h
    have f1 := AutoSeq1.idx_int
    wp_walk using wpAny_loadPart' hl
    repeat (first
      | (refine wpAny_ite_false (decide_eq_false (by rw [c0]; exact Bool.false_ne_true)) ?_; wp_walk using wpAny_loadPart' hl)
      | (refine wpAny_ite_true (decide_eq_true c1) ?_; wp_walk using wpAny_loadPart' hl))
    exact ⟨_, rfl, h⟩
theorem mul_zero (l : Addr) (items : Array Value) (n : Nat) (dd : Option Addr) (sl : Array (Option Value)) (x : Int) (u : Tok) (c0 : (decide (x < -(2 ^ 63)) || decide (x ≥ 2 ^ 63)) = false) (c1 : (items.isEmpty || x == 1) = false) (c2 : (decide (x ≤ 0) || items.isEmpty) = true) :
    Meets (Builtin.«tuple.__mul__» ⟨[.ref l, .int x u], []⟩) (fun _ R s => s.heap.get? l = some { cls := .type "tuple", dict := dd, data := .seq items n, slots := sl } ∧ R (.ok (.ret (.ref s.heap.objs.size))) { s with heap := s.heap.push { cls := .type "tuple", data := .seq #[] } }) :=
  .of_wp fun prog w A R s h => by
    obtain ⟨hp, g, d, tk, os⟩ := s
    obtain ⟨hl, h⟩ := h
    have f1 := AutoSeq1.idx_int
    wp_walk using wpAny_loadPart' hl
    repeat (first
      | (refine wpAny_ite_false (decide_eq_false (by rw [c0]; exact Bool.false_ne_true)) ?_; wp_walk using wpAny_loadPart' hl)
      | (refine wpAny_ite_false (decide_eq_false (by rw [c1]; exact Bool.false_ne_true)) ?_; wp_walk using wpAny_loadPart' hl)
      | (refine wpAny_ite_true (decide_eq_true c2) ?_; wp_walk using wpAny_loadPart' hl))
    exact ⟨_, rfl, h⟩
end DLmul
end PySem

namespace DL
open PySem L2
theorem bt_tuple : bootBuiltins "tuple" = some (.type "tuple") := by decide +kernel
theorem bt_list : bootBuiltins "list" = some (.type "list") := by decide +kernel
theorem bt_int : bootBuiltins "int" = some (.type "int") := by decide +kernel
theorem bt_str : bootBuiltins "str" = some (.type "str") := by decide +kernel
theorem bt_bool : bootBuiltins "bool" = some (.type "bool") := by decide +kernel
theorem bt_dict : bootBuiltins "dict" = some (.type "dict") := by decide +kernel
theorem bt_ValueError : bootBuiltins "ValueError" = some (.type "ValueError") := by decide +kernel
theorem bt_len : bootBuiltins "len" = some (.builtin "len") := by decide +kernel
theorem bt_isinstance : bootBuiltins "isinstance" = some (.builtin "isinstance") := by decide +kernel
theorem bt_all : bootBuiltins "all" = some (.builtin "all") := by decide +kernel
theorem bt_any : bootBuiltins "any" = some (.builtin "any") := by decide +kernel
theorem bt_max : bootBuiltins "max" = some (.builtin "max") := by decide +kernel
theorem bt_min : bootBuiltins "min" = some (.builtin "min") := by decide +kernel
section
variable {X : Cx} {W : DW} {pos : Pos}
theorem tk0 : Takes X (liftW X.K W0) := (takes0 (X := X)).imp fun _ _ _ _ ⟨_, _, _, _, _, _, h⟩ => h
theorem tkn {H0 : Hp} : Takes X (liftW X.K (Wn H0)) := (takes0 (X := X)).imp fun _ _ _ _ ⟨_, _, _, _, _, _, h⟩ => h
/-- a built-in class as a value -/
theorem pd_ty {x : Str} {n : String} (hg : Gl X x) (hm : X.mg x = none) (hv : bootBuiltins x = some (.type n)) (hn : x ≠ "__name__" := by decide) (hd : (x == ("__debug__" : Str)) = false := by decide) : PD X W (.Name x pos) (dC (.ty n)) :=
  pd_c (pe_bltn (v := .ty n) hg hm hv rfl hn hd) fun _ => .ty n
/-- a class of the program as a value -/
theorem pd_cls {x : Str} {C : Addr} (hg : Gl X x) (hm : X.mg x = some (.ref C)) (hd : (x == ("__debug__" : Str)) = false := by decide) : PD X W (.Name x pos) (dC (.ref C)) :=
  pd_c (pe_glob (v := .ref C) hg hm rfl hd) fun _ => .ref C
/-- a constant of the module -/
theorem pd_gint {x : Str} {i : Int} {t : Tok} (hg : Gl X x) (hm : X.mg x = some (.int i t)) (hd : (x == ("__debug__" : Str)) = false := by decide) : PD X W (.Name x pos) (dC (.int i)) :=
  pd_c (pe_glob (v := .int i) hg hm ⟨t, rfl⟩ hd) fun _ => .int i
theorem pd_gstr {x : Str} {z : Str} {t : Tok} (hg : Gl X x) (hm : X.mg x = some (.str z t)) (hd : (x == ("__debug__" : Str)) = false := by decide) : PD X W (.Name x pos) (dC (.str z)) :=
  pd_c (pe_glob (v := .str z) hg hm ⟨t, rfl⟩ hd) fun _ => .str z
/-- t * k, any k -/
def rRepA (K : PySem.W.Frag) : R2 := fun x y H Q => ∃ l k xs, x = .ref l ∧ y = .int k ∧ SqT K H l xs ∧ -(2 ^ 63) ≤ k ∧ k < 2 ^ 63 ∧ xs.length * k.toNat ≤ sizeLine ∧ (xs = [] ∨ k = 1 → Q (.ref l) H) ∧
  (¬ (xs = [] ∨ k = 1) → ∀ p, H p = none → Q (.ref p) (upd H p (.tup (List.replicate k.toNat xs).flatten)))
theorem op_repA : OpR X (binaryOp .Mult) (rRepA X.K) := by
  intro pins s σ H x y v u Q I rx ry ⟨l, k, xs, ex, ey, hT, k1, k2, hz, q1, q2⟩
  subst ex; subst ey
  cases rx
  obtain ⟨t, rfl⟩ := ry
  obtain ⟨its, r, ⟨⟨cls, dd, data, sl⟩, ho, hc, n, hd⟩, hs⟩ := I.tuple hT
  simp only at hc hd
  subst hc hd
  have hle : its.length = xs.length := r.length.symm
  have c0 : (decide (k < -(2 ^ 63)) || decide (k ≥ 2 ^ 63)) = false := by simp; omega
  have he : its.toArray.isEmpty = decide (xs = []) := by
    cases r with
    | nil => simp
    | cons _ _ => simp
  have road : ∀ {P : Builtin → (Result → Shared → Prop) → Shared → Prop} {b : Fin → Prop}, True := fun {_ _} => trivial
  have go : wpAny (model X.prog X.w) X.A (call (.builtin "tuple.__mul__") [.ref l, .int k t]) (EP X pins σ Q) X.xe s → wpAny (model X.prog X.w) X.A (binaryOp .Mult (.ref l) (.int k t)) (EP X pins σ Q) X.xe s := fun h =>
    wpAny_binaryOp_repeat_ref (T := "tuple") (U := "int") (by decide) ⟨_, ho, rfl⟩ (fun s' => typeIs_int s' k t) noFill_tuple_mul F.fills_int_mul F.slot_int_rmul repeat_tuple F.slot_int_index.lookup
      (call_meets F.slot_int_rmul (typeIs_int s k t) F.entry_int_rmul (F.args_int_rmul_2 _ _) (int_rmul_tuple k t l its.toArray n dd sl) ⟨ho, rfl, ⟨_, ho, rfl⟩, h⟩)
  by_cases hw : xs = [] ∨ k = 1
  · refine go (call_meets F.slot_tuple_mul ⟨_, ho, rfl⟩ F.entry_tuple_mul (F.args_tuple_mul_2 _ _) (DLmul.mul_self l its.toArray n dd sl k t c0 ?_) ⟨ho, ⟨.ref l, H, I, rfl, q1 hw⟩⟩)
    rw [he]
    rcases hw with h | h <;> simp [h]
  · have hx : xs ≠ [] := fun e => hw (.inl e)
    have hk : k ≠ 1 := fun e => hw (.inr e)
    have c1 : (its.toArray.isEmpty || k == 1) = false := by rw [he]; simp [hx, hk]
    by_cases hp : k ≤ 0
    · refine go (call_meets F.slot_tuple_mul ⟨_, ho, rfl⟩ F.entry_tuple_mul (F.args_tuple_mul_2 _ _) (DLmul.mul_zero l its.toArray n dd sl k t c0 c1 (by simp [hp])) ⟨ho, ?_⟩)
      have e0 : k.toNat = 0 := by omega
      refine ⟨.ref s.heap.objs.size, _, I.laid (t' := s.toks) (o := .tup []) (fun b ob q => Heap.get?_push_of_some _ q) (Nat.le_refl _) ⟨Nat.zero_le _, [], .nil, PyProof.Rows.IsTup.new _ _⟩, rfl, ?_⟩
      have := q2 hw s.heap.objs.size (I.hok.fresh (Nat.le_refl _))
      rw [e0] at this
      exact this
    · have hsz : (List.replicate k.toNat its).flatten.length ≤ sizeLine := by rw [PyProof.Rows.lm_len_rep_flat, hle, Nat.mul_comm]; exact hz
      have hm : ((its.toArray.size : Nat) : Int) * k ≤ 16777216 := by
        have e1 : k = (k.toNat : Int) := by omega
        rw [sizeLine_eq] at hz
        rw [e1, List.size_toArray, hle, ← Int.natCast_mul]
        exact Int.ofNat_le.mpr hz
      refine go (call_meets F.slot_tuple_mul ⟨_, ho, rfl⟩ F.entry_tuple_mul (F.args_tuple_mul_2 _ _) (tuple_mulW l its.toArray n dd sl k t c0 c1 (by rw [he]; simp [hx]; omega) (by omega) ?_ (by rw [size_rep, List.size_toArray]; exact hsz)) ⟨ho, ?_⟩)
      · unfold Builtin.Tuple.tupleTooMany
        rw [sizeLine_eq]
        exact decide_eq_false (by omega)
      · rw [size_rep]
        exact ⟨.ref s.heap.objs.size, _, I.laid (t' := s.toks) (o := .tup (List.replicate k.toNat xs).flatten) (fun b ob q => Heap.get?_push_of_some _ q) (Nat.le_refl _) ⟨by rw [PyProof.Rows.lm_len_rep_flat, Nat.mul_comm]; exact hz, _, r.rep k.toNat, PyProof.Rows.IsTup.new _ _⟩, rfl, q2 hw _ (I.hok.fresh (Nat.le_refl _))⟩
/-- * -/
def mulD : DO := fun x y M Q => match x, y with
  | .int i, .int j => CMulX i j ∧ Q (.int (i * j)) M
  | .tup xs, .int k => (-(2 ^ 63) ≤ k ∧ k < 2 ^ 63 ∧ xs.length * k.toNat ≤ sizeLine) ∧ Q (.tup (List.replicate k.toNat xs).flatten) M
  | .ref a, .int k => match M a with
    | some (.lst xs) => (-(2 ^ 63) ≤ k ∧ k < 2 ^ 63 ∧ xs.length * k.toNat ≤ sizeLine) ∧ ∀ p, M p = none → Q (.ref p) (put M p (.lst (List.replicate k.toNat xs).flatten))
    | _ => False
  | _, _ => False
theorem op_mulD : OpR X (binaryOp .Mult) (liftO X.K mulD) :=
  OpRimp ((op_mulX (X := X)).or ((op_repA (X := X)).or (op_rep (X := X)))) fun x y H Q ⟨dx, dy, M, Qd, q, a, b, c, k⟩ => by
    unfold mulD at q
    split at q
    · exact .inl ⟨_, _, a.toInt, b.toInt, q.1, k _ M _ H q.2 .refl (.int _) c⟩
    · rename_i xs kk
      obtain ⟨pa, va, rfl, sa, la⟩ := a.toTup
      obtain ⟨⟨k2, k3, z⟩, q⟩ := q
      refine .inr (.inl ⟨pa, kk, va, rfl, b.toInt, sa, k2, k3, by rw [la.length]; exact z, fun e => ?_, fun _ p hp => k.tup c (la.rep _) hp q⟩)
      rcases e with e | e
      · subst e
        have e' : xs = [] := by cases la; rfl
        subst e'
        have e2 : (List.replicate kk.toNat ([] : List D)).flatten = [] := by simp
        rw [e2] at q
        exact k _ M _ H q .refl (.tup sa la) c
      · subst e
        have e2 : (List.replicate (1 : Int).toNat xs).flatten = xs := by simp
        rw [e2] at q
        exact k _ M _ H q .refl (.tup sa la) c
    · rename_i pa kk
      split at q
      · rename_i xs e1
        obtain ⟨va, ha, la⟩ := c.lst e1
        obtain ⟨⟨k1, k2, z⟩, q⟩ := q
        exact .inr (.inr ⟨pa, kk, va, a.toRef, b.toInt, ha, k1, k2, by rw [la.length]; exact z, fun p hp => k.lst c (la.rep _) hp q⟩)
      · exact q.elim
    · exact q.elim
/-- a < b < c -/
def dChain (g g' : DO) (ta tb tc : DE) : DE := fun τ M Q E => ta τ M (fun x M1 => tb τ M1 (fun y M2 => g x y M2 (fun z M3 => match z with
  | .bl k => if k = true then tc τ M3 (fun z2 M4 => g' y z2 M4 Q) E else Q (.bl false) M3
  | _ => False)) E) E
theorem dChain_lift {g g' : DO} {ta tb tc : DE} {σ : L2.St} {H : Hp} {Q : VK} (h : liftE X.K W (dChain g g' ta tb tc) σ H Q) : tChain (liftO X.K g) (liftO X.K g') (liftE X.K W ta) (liftE X.K W tb) (liftE X.K W tc) σ H Q := by
  obtain ⟨τ, M, Qd, Ed, hs, hr, q, we, k⟩ := h
  refine ⟨τ, M, _, Ed, hs, hr, q, we, fun x M1 v H1 q1 e1 r1 h1 => ⟨τ, M1, _, Ed, hs.mono e1, h1, q1, we, fun y M2 u H2 q2 e2 r2 h2 => ?_⟩⟩
  refine ⟨x, y, M2, _, q2, r1.mono e2, r2, h2, fun z M3 zv H3 q3 e3 r3 h3 => ?_⟩
  dsimp only at q3
  split at q3
  · rename_i b
    refine ⟨b, r3.toBl, ?_⟩
    cases b with
    | false => exact k _ M3 _ H3 (by simpa using q3) (e1.trans (e2.trans e3)) (.bl _) h3
    | true =>
      simp only [if_true] at q3 ⊢
      exact ⟨τ, M3, _, Ed, hs.mono (e1.trans (e2.trans e3)), h3, q3, we, fun w M4 wv H4 q4 e4 r4 h4 => ⟨y, w, M4, Qd, q4, r2.mono (e3.trans e4), r4, h4, k.mono (e1.trans (e2.trans (e3.trans e4)))⟩⟩
  · exact q3.elim
theorem pd_chain {op op' : CmpOp} {g g' : DO} {a b c : Expr} {ta tb tc : DE} (ho : OpR X (compareOp op) (liftO X.K g)) (ho' : OpR X (compareOp op') (liftO X.K g')) (ha : PD X W a ta) (hb : PD X W b tb) (hc : PD X W c tc)
    (hm : lastMarks [op, op'] [b, c] = false := by with_unfolding_all rfl) : PD X W (.Compare a [op, op'] [b, c] pos) (dChain g g' ta tb tc) := ⟨PEimp (pe_chain ho ho' ha.run hb.run hc.run hm) fun _ _ _ h => dChain_lift h⟩
theorem ptd_chain {op op' : CmpOp} {g g' : DO} {a b c : Expr} {ta tb tc : DE} (ho : OpR X (compareOp op) (liftO X.K g)) (ho' : OpR X (compareOp op') (liftO X.K g')) (ha : PD X W a ta) (hb : PD X W b tb) (hc : PD X W c tc)
    (hm : lastMarks [op, op'] [b, c] = false := by with_unfolding_all rfl) : PTD X W (.Compare a [op, op'] [b, c] pos) (dB (dChain g g' ta tb tc)) :=
  ⟨PTimp (pt_chain ho ho' ha.run hb.run hc.run hm) fun σ H Q h => dChain_lift (Q := fun x H1 => ∃ k, x = .bl k ∧ Q k H1) (W := W) (by
    obtain ⟨τ, M, Qd, Ed, hs, hr, q, we, k⟩ := h
    exact ⟨τ, M, _, Ed, hs, hr, q, we, fun d M1 v H1 q1 e1 r1 h1 => by
      dsimp only at q1
      split at q1
      · exact ⟨_, r1.toBl, k _ M1 H1 q1 e1 h1⟩
      · exact q1.elim⟩)⟩
end
end DL
namespace DL
open PySem L2
/-! ### loops by an invariant -/
theorem dLoop_inv {g : DGt} {tb : DS} {kp : Mp → Prop} {Dn : DN} {its : List D} (I : Nat → Sl → Mp → Prop) (hk : ∀ i τ M, i ≤ its.length → I i τ M → kp M)
    (hs : ∀ (i : Nat) (d : D) (τ : Sl) (M : Mp) (nxt : Sl → Mp → Prop), its[i]? = some d → I i τ M → (∀ τ' M', I (i + 1) τ' M' → nxt τ' M') → g d τ M fun τ2 M2 => tb { Dn with nx := nxt, ct := nxt, bk := Dn.nx } τ2 M2)
    (hd : ∀ τ M, I its.length τ M → Dn.nx τ M) {τ : Sl} {M : Mp} (h0 : I 0 τ M) : dLoop g tb kp its Dn τ M := by
  have go : ∀ (n i : Nat), its.length - i = n → i ≤ its.length → ∀ τ M, I i τ M → dLoop g tb kp (its.drop i) Dn τ M := by
    intro n
    induction n with
    | zero =>
      intro i e hi τ M h
      have : i = its.length := by omega
      subst this
      rw [List.drop_length]
      exact ⟨hk _ _ _ hi h, hd τ M h⟩
    | succ n ih =>
      intro i e hi τ M h
      have hlt : i < its.length := by omega
      rw [List.drop_eq_getElem_cons hlt]
      exact ⟨hk _ _ _ hi h, hs i _ τ M _ (by simp [hlt]) h fun τ' M' h' => ih (i + 1) (by omega) hlt τ' M' h'⟩
  simpa using go _ 0 rfl (Nat.zero_le _) τ M h0
theorem dCL_inv {g : D → Sl → Sl} {tt : DT} {te : DE} {kp : Mp → Prop} {p : Addr} {τ : Sl} {F : Mp → Prop} {its : List D} (I : Nat → Mp → Prop) (hk : ∀ i M, i ≤ its.length → I i M → kp M)
    (hs : ∀ (i : Nat) (d : D) (M : Mp) (nxt : Mp → Prop), its[i]? = some d → I i M → (∀ M', I (i + 1) M' → nxt M') → tt (g d τ) M (fun b M1 => if b = true then te (g d τ) M1 (fun y M2 => match M2 p with
      | some (.lst acc) => acc.length < sizeLine ∧ nxt (put M2 p (.lst (acc ++ [y])))
      | _ => False) noE else nxt M1) noE)
    (hd : ∀ M, I its.length M → F M) {M : Mp} (h0 : I 0 M) : dCL g tt te kp p τ F its M := by
  have go : ∀ (n i : Nat), its.length - i = n → i ≤ its.length → ∀ M, I i M → dCL g tt te kp p τ F (its.drop i) M := by
    intro n
    induction n with
    | zero =>
      intro i e hi M h
      have : i = its.length := by omega
      subst this
      rw [List.drop_length]
      exact ⟨hk _ _ hi h, hd M h⟩
    | succ n ih =>
      intro i e hi M h
      have hlt : i < its.length := by omega
      rw [List.drop_eq_getElem_cons hlt]
      exact ⟨hk _ _ hi h, hs i _ M _ (by simp [hlt]) h fun M' h' => ih (i + 1) (by omega) hlt M' h'⟩
  simpa using go _ 0 rfl (Nat.zero_le _) M h0
end DL

set_option maxHeartbeats 4000000
namespace DL
open PySem L2
/-! ### tuples of ints in readings -/
def T (xs : List Int) : D := .tup (xs.map D.int)
variable {xs ys : List Int} {M : Mp} {Q : DK} {i j : Int}
theorem T_inj : T xs = T ys ↔ xs = ys := by
  unfold T
  constructor
  · intro h
    injection h with h
    exact (List.map_inj_right (fun a b e => by injection e)).mp h
  · rintro rfl; rfl
theorem getD_of {n : Nat} (h : n < xs.length) : xs[n]? = some (xs.getD n 0) := by
  rw [List.getD_eq_getElem?_getD, List.getElem?_eq_getElem h]; rfl
theorem lenG_T : lenG [T xs] M Q = Q (.int xs.length) M := by simp [lenG, lenD, T]
theorem ixN_in {n : Nat} (h0 : 0 ≤ i) (h1 : i < n) : ixN n i = some i.toNat := by
  unfold ixN
  rw [if_pos h0, if_pos h1]
theorem atI_T (h0 : 0 ≤ i) (h1 : i < xs.length) : atI (xs.map D.int) i = some (.int (xs.getD i.toNat 0)) := by
  unfold atI
  rw [List.length_map, ixN_in h0 h1]
  show (xs.map D.int)[i.toNat]? = _
  rw [List.getElem?_map, getD_of (by omega)]
  rfl
theorem ixG_T (h0 : 0 ≤ i) (h1 : i < xs.length) : ixG (T xs) (.int i) M Q = Q (.int (xs.getD i.toNat 0)) M := by
  unfold T ixG
  simp only
  rw [atI_T h0 h1]
theorem addD_T : addD (T xs) (T ys) M Q = (xs.length + ys.length ≤ sizeLine ∧ Q (T (xs ++ ys)) M) := by
  unfold T addD
  simp only [List.length_map, List.map_append]
theorem mulD_T {k : Int} : mulD (T xs) (.int k) M Q = ((-(2 ^ 63) ≤ k ∧ k < 2 ^ 63 ∧ xs.length * k.toNat ≤ sizeLine) ∧ Q (T (List.replicate k.toNat xs).flatten) M) := by
  unfold T mulD
  simp only [List.length_map, List.map_flatten, List.map_replicate]
theorem okL_ints : okL (xs.map D.int) = true := by
  induction xs with
  | nil => rfl
  | cons a l ih => simp [okL, ok, ih]
theorem depL_ints : depL (xs.map D.int) = 0 := by
  induction xs with
  | nil => rfl
  | cons a l ih => simp [depL, dep, ih]
theorem eqbL_ints : ∀ {xs ys : List Int}, eqbL (xs.map D.int) (ys.map D.int) = decide (xs = ys)
  | [], [] => by simp [eqbL]
  | [], _ :: _ => by simp [eqbL]
  | _ :: _, [] => by simp [eqbL]
  | x :: xs, y :: ys => by
    simp [eqbL, eqb, eqbL_ints (xs := xs) (ys := ys)]
    rw [Bool.beq_eq_decide_eq]
theorem eqG_T {n : Bool} : eqG n (T xs) (T ys) M Q = Q (.bl (n != decide (xs = ys))) M := by
  unfold T eqG eqOk
  simp [ok, dep, okL_ints, depL_ints, eqb, eqbL_ints]
theorem eqG_int {n : Bool} : eqG n (.int i) (.int j) M Q = Q (.bl (n != decide (i = j))) M := rfl
theorem eqD_T : eqD (T xs) (T ys) M Q = Q (.bl (decide (xs = ys))) M := by unfold eqD; rw [eqG_T, Bool.false_bne]
theorem eqD_int : eqD (.int i) (.int j) M Q = Q (.bl (decide (i = j))) M := by unfold eqD; rw [eqG_int, Bool.false_bne]
theorem neD_int : neD (.int i) (.int j) M Q = Q (.bl (!decide (i = j))) M := by unfold neD; rw [eqG_int, Bool.true_bne]
theorem rng_at {n : Nat} {f : Nat → D} {i : Nat} {d : D} (h : ((List.range n).map f)[i]? = some d) : i < n ∧ d = f i := by
  have h1 := (List.getElem?_eq_some_iff.mp h).1
  rw [List.length_map, List.length_range] at h1
  rw [List.getElem?_map, List.getElem?_range h1] at h
  exact ⟨h1, by simpa using h.symm⟩
theorem map_at {xs : List Int} {i : Nat} {d : D} (h : (xs.map D.int)[i]? = some d) : i < xs.length ∧ d = .int (xs.getD i 0) := by
  have h1 := (List.getElem?_eq_some_iff.mp h).1
  rw [List.length_map] at h1
  rw [List.getElem?_map, getD_of h1] at h
  exact ⟨h1, by simpa using h.symm⟩
theorem len_rng {n : Nat} {f : Nat → D} : ((List.range n).map f).length = n := by rw [List.length_map, List.length_range]
theorem cut_pre (h0 : 0 ≤ i) : cutD (xs.map D.int) none (some i) = (xs.take i.toNat).map D.int := by
  unfold cutD HT.sIx
  simp only [List.drop_zero, Nat.sub_zero, List.length_map]
  rw [if_neg (by omega)]
  rw [← List.map_take]
  congr 1
  rw [List.take_eq_take_iff]
  omega
theorem cut_post (h0 : 0 ≤ i) : cutD (xs.map D.int) (some i) none = (xs.drop i.toNat).map D.int := by
  unfold cutD HT.sIx
  simp only [List.length_map]
  rw [if_neg (by omega), ← List.map_drop, List.take_of_length_le (by rw [List.length_map, List.length_drop]; omega)]
  by_cases h : i.toNat ≤ xs.length
  · rw [Nat.min_eq_left h]
  · rw [Nat.min_eq_right (by omega), List.drop_eq_nil_of_le (by omega), List.drop_eq_nil_of_le (by omega)]
theorem cut_mid (h0 : 0 ≤ i) (h1 : i ≤ j) (h2 : i ≤ xs.length) : cutD (xs.map D.int) (some i) (some j) = ((xs.drop i.toNat).take (j - i).toNat).map D.int := by
  unfold cutD HT.sIx
  simp only [List.length_map]
  rw [if_neg (by omega), if_neg (by omega), ← List.map_drop, ← List.map_take]
  have e : min i.toNat xs.length = i.toNat := by omega
  rw [e]
  congr 1
  rw [List.take_eq_take_iff, List.length_drop]
  omega
theorem slG_pre (h0 : 0 ≤ i) : slG (T xs) none (some i) M Q = Q (T (xs.take i.toNat)) M := by
  unfold T slG
  simp only
  rw [cut_pre h0]
theorem slG_post (h0 : 0 ≤ i) : slG (T xs) (some i) none M Q = Q (T (xs.drop i.toNat)) M := by
  unfold T slG
  simp only
  rw [cut_post h0]
theorem slG_mid (h0 : 0 ≤ i) (h1 : i ≤ j) (h2 : i ≤ xs.length) : slG (T xs) (some i) (some j) M Q = Q (T ((xs.drop i.toNat).take (j - i).toNat)) M := by
  unfold T slG
  simp only
  rw [cut_mid h0 h1 h2]
theorem itemsOf_T : itemsOf (T xs) M = some (xs.map D.int) := rfl
theorem keepOf_T {its : List D} : keepOf (T xs) its = fun _ => True := rfl
theorem tup_T : D.tup [] = T [] := rfl
theorem tup_T1 : D.tup [.int i] = T [i] := rfl
theorem tupG_T : tupG [T xs] M Q = Q (T xs) M := rfl
/-- a field of an instance that is known -/
theorem fld_at {K : PySem.W.Frag} {a C : Addr} {fs : List (Str × D)} {f : Str} {v : D} (hM : M a = some (.ins C fs)) (hk : FldK K C f) (hl : fs.lookup f = some v) :
    (match M a with
    | some (.ins C fs) => FldK K C f ∧ match fs.lookup f with
      | some v => Q v M
      | none => False
    | _ => False) = Q v M := by
  rw [hM]
  simp only [hl, hk, true_and]
/-- lists of ints -/
theorem seqOf_lst {a : Addr} {ds : List D} (h : M a = some (.lst ds)) : seqOf M a = some ds := by unfold seqOf; rw [h]
theorem seqOf_rol {a : Addr} {ds : List D} (h : M a = some (.rol ds)) : seqOf M a = some ds := by unfold seqOf; rw [h]
theorem lenG_ref {a : Addr} {ds : List D} (h : seqOf M a = some ds) : lenG [.ref a] M Q = Q (.int ds.length) M := by
  unfold seqOf at h
  unfold lenG lenD
  cases e : M a with
  | none => rw [e] at h; cases h
  | some o =>
    rw [e] at h
    cases o <;> first | (cases h; simp only [e]) | cases h
theorem ixG_ref {a : Addr} {ns : List Int} (h : seqOf M a = some (ns.map D.int)) (h0 : 0 ≤ i) (h1 : i < ns.length) : ixG (.ref a) (.int i) M Q = Q (.int (ns.getD i.toNat 0)) M := by
  unfold ixG
  simp only
  rw [h]
  simp only [Option.bind_some]
  rw [atI_T h0 h1]
theorem blsOf_range {n : Nat} {f : Nat → Bool} : blsOf (((List.range n).map f).map D.bl) = some ((List.range n).map f) := blsOf_map _
theorem addD_int : addD (.int i) (.int j) M Q = Q (.int (i + j)) M := rfl
theorem mulD_int : mulD (.int i) (.int j) M Q = (CMulX i j ∧ Q (.int (i * j)) M) := rfl
theorem mulD_ref {a : Addr} {ns : List Int} {k : Int} (h : M a = some (.lst (ns.map D.int))) : mulD (.ref a) (.int k) M Q = ((-(2 ^ 63) ≤ k ∧ k < 2 ^ 63 ∧ ns.length * k.toNat ≤ sizeLine) ∧ ∀ p, M p = none → Q (.ref p) (put M p (.lst ((List.replicate k.toNat ns).flatten.map D.int)))) := by
  unfold mulD
  simp only [h, List.length_map, List.map_flatten, List.map_replicate]
theorem addD_ref {a b : Addr} {ns ms : List Int} (h : M a = some (.lst (ns.map D.int))) (h' : M b = some (.lst (ms.map D.int))) : addD (.ref a) (.ref b) M Q = (ns.length + ms.length ≤ sizeLine ∧ ∀ p, M p = none → Q (.ref p) (put M p (.lst ((ns ++ ms).map D.int)))) := by
  unfold addD
  simp only [h, h', List.length_map, List.map_append]
theorem slG_rpre {a : Addr} {ns : List Int} (h : seqOf M a = some (ns.map D.int)) (h0 : 0 ≤ i) : slG (.ref a) none (some i) M Q = ∀ p, M p = none → Q (.ref p) (put M p (.lst ((ns.take i.toNat).map D.int))) := by
  unfold slG
  simp only [h]
  rw [cut_pre h0]
theorem slG_rpost {a : Addr} {ns : List Int} (h : seqOf M a = some (ns.map D.int)) (h0 : 0 ≤ i) : slG (.ref a) (some i) none M Q = ∀ p, M p = none → Q (.ref p) (put M p (.lst ((ns.drop i.toNat).map D.int))) := by
  unfold slG
  simp only [h]
  rw [cut_post h0]
theorem tupG_ref {a : Addr} {ns : List Int} (h : seqOf M a = some (ns.map D.int)) : tupG [.ref a] M Q = Q (T ns) M := by
  simp only [tupG, h]
  rfl
theorem lstG_T : lstG [T xs] M Q = ∀ p, M p = none → Q (.ref p) (put M p (.lst (xs.map D.int))) := rfl
theorem sub_put {M : Mp} {p : Addr} {o : MO} (h : M p = none) : Sub M (DL.put M p o) := Sub.refl.put h
/-- while by a variant -/
theorem dWh_inv {c : DT} {tb : DS} {Dn : DN} (I : Nat → Sl → Mp → Prop)
    (step : ∀ (n : Nat) (τ : Sl) (M : Mp) (nxt : Sl → Mp → Prop), I n τ M → (∀ m, n = m + 1 → ∀ τ' M', I m τ' M' → nxt τ' M') →
      c τ M (fun b M1 => if b = true then tb { Dn with nx := nxt, ct := nxt, bk := Dn.nx } τ M1 else Dn.nx τ M1) (exOf Dn τ)) {n : Nat} {τ : Sl} {M : Mp} (h : I n τ M) : dWhile c tb Dn τ M := by
  refine ⟨n + 1, ?_⟩
  have go : ∀ (n : Nat) (τ : Sl) (M : Mp), I n τ M → dWhN c tb (n + 1) Dn τ M := by
    intro n
    induction n with
    | zero => exact fun τ M h => step 0 τ M _ h fun m e => by omega
    | succ n ih =>
      intro τ M h
      refine step (n + 1) τ M _ h fun m e τ' M' h' => ?_
      have : m = n := by omega
      subst this
      exact ih τ' M' h'
  exact go n τ M h
end DL

set_option maxHeartbeats 4000000
namespace DL
open PySem L2
/-! ### a list of the module's own: it is read in every heap -/
def KL (K : PySem.W.Frag) (a : Addr) (ns : List Int) : Prop := ∀ H, SqL K H a (ns.map V.int)
def lenK (K : PySem.W.Frag) : DG := fun ds M Q => match ds with
  | [.ref a] => ∃ ns, KL K a ns ∧ Q (.int ((ns.length : Nat) : Int)) M
  | _ => False
def ixK (K : PySem.W.Frag) : DO := fun x y M Q => match x, y with
  | .ref a, .int i => ∃ ns, KL K a ns ∧ 0 ≤ i ∧ i < ns.length ∧ Q (.int (ns.getD i.toNat 0)) M
  | _, _ => False
def lstK (K : PySem.W.Frag) : DG := fun ds M Q => match ds with
  | [.ref a] => ∃ ns : List Int, KL K a ns ∧ ∀ p, M p = none → Q (.ref p) (put M p (.lst (ns.map D.int)))
  | _ => False
section
variable {X : Cx}
theorem call_lenK : CallR X (.builtin "len") (liftC X.K (lenK X.K)) := CallRimp call_len fun xs H Q ⟨ds, M, Qd, q, r, hr, k⟩ => by
  unfold lenK at q
  split at q
  · obtain ⟨ns, h, q⟩ := q
    obtain ⟨v, rfl, rv⟩ := r.one
    rw [rv.toRef]
    exact ⟨_, ns.length, rfl, .inl ⟨_, h H, (List.length_map ..).symm⟩, k _ M _ H q .refl (.int _) hr⟩
  · exact q.elim
theorem ix_K : IxR X (liftO X.K (ixK X.K)) := IxRimp ix_seq fun x y H Q ⟨dx, dy, M, Qd, q, a, b, c, k⟩ => by
  unfold ixK at q
  split at q
  · obtain ⟨ns, h, h0, h1, q⟩ := q
    refine .inl ⟨_, _, _, .int (ns.getD _ 0), a.toRef, b.toInt, h H, ?_, k _ M _ H q .refl (.int _) c⟩
    unfold atI
    rw [List.length_map, ixN_in h0 h1, Option.bind_some, List.getElem?_map, getD_of (by omega)]
    rfl
  · exact q.elim
theorem call_lstK : CallR X (.type "list") (liftC X.K (lstK X.K)) := CallRimp call_list_of fun xs H Q ⟨ds, M, Qd, q, r, hr, k⟩ => by
  unfold lstK at q
  split at q
  · obtain ⟨ns, h, q⟩ := q
    obtain ⟨v, rfl, rv⟩ := r.one
    rw [rv.toRef]
    exact ⟨_, _, rfl, .inl (h H), fun p hp => k.lst hr RpL.ofInts hp q⟩
  · exact q.elim
end
section
variable {P : Program} {w : World} {K : PySem.W.Frag} {mg : Str → Option Value} {base : Heap}
/-- a def with defaults -/
theorem okDf {x qual : Str} {st : Stmt} {f : Addr} {fd : FuncData} {N ps : List Str} {k : Nat} {sp : DSp} {dvs : List V} {kws : List (Str × V)} (F : FunD K x qual (defArgs st) (defBody st) (defScope st) dvs kws f fd) (S : FnScope N ps (defScope st)) (len : ∀ ds M Q E, sp ds M Q E → ds.length = ps.length)
    (hbody : ∀ (cdv : Value) (A : Around) (outer : List Env) (s : Shared) (H : Hp) (E : XK), Room k (A.deeper (PyProof.Rows.envOfC qual (defScope st) s.heap.objs.size f cdv)) →
      Takes (cxOf (L2.CX P w) P w K mg base N qual (defScope st) f cdv A outer s H E) (liftW K (defW K H E)) →
      ∃ t, PSsD (cxOf (L2.CX P w) P w K mg base N qual (defScope st) f cdv A outer s H E) (defW K H E) (defBody st) t ∧ ∀ ds M Q E', sp ds M Q E' → t (ends Q E') (dstart N ds) M) :
    FnOk P w K mg base (L2.CX P w) (k + 1) f fd ps (liftSp K sp) := by
  refine F.ok S (fun vs H Q E ⟨ds, M, Qd, Ed, hsp, r, _⟩ => r.length.trans (len ds M Qd Ed hsp)) fun cdv A outer s H vs Q E hr ⟨ds, M, Qd, Ed, hsp, r, hr', kc, xc⟩ => ?_
  obtain ⟨t, ht, q⟩ := hbody cdv A outer s H E hr (Takes.imp (takes_of rfl rfl rfl rfl) fun c d σ H' ⟨x, τ, M', rs, h2, xr, hw⟩ => hw H' c d rs.ext xr h2)
  refine ⟨_, ht.run, dstart N ds, M, ends Qd Ed, rs_start r, hr', q ds M Qd Ed hsp, fun x τ M' ⟨M0, sb, h⟩ H' cls d e xr h2 => xc x M0 cls d H' h e xr (h2.sub sb), ?_⟩
  exact ⟨fun τ M' σ H' ⟨M0, sb, h⟩ e _ h2 => kc _ M0 _ H' h e .non (h2.sub sb), fun d M' v H' ⟨M0, sb, h⟩ e rv h2 => kc d M0 v H' h e rv (h2.sub sb), fun _ _ _ _ z => z.elim, fun _ _ _ _ z => z.elim⟩
/-- one of two promises -/
theorem fnOk_or {k : Nat} {f : Addr} {fd : FuncData} {ps : List Str} {sp1 sp2 sp : DSp} (F1 : FnOk P w K mg base (L2.CX P w) k f fd ps (liftSp K sp1)) (F2 : FnOk P w K mg base (L2.CX P w) k f fd ps (liftSp K sp2))
    (h : ∀ ds M Q E, sp ds M Q E → sp1 ds M Q E ∨ sp2 ds M Q E) : FnOk P w K mg base (L2.CX P w) k f fd ps (liftSp K sp) :=
  ⟨fun vs H Q E ⟨ds, M, Qd, Ed, q, r⟩ => (h _ _ _ _ q).elim (fun q => F1.len vs H Q E ⟨ds, M, Qd, Ed, q, r⟩) fun q => F2.len vs H Q E ⟨ds, M, Qd, Ed, q, r⟩,
   fun A outer s H args us vs Q E hr he hb hv ⟨ds, M, Qd, Ed, q, r⟩ => (h _ _ _ _ q).elim (fun q => F1.run A outer s H args us vs Q E hr he hb hv ⟨ds, M, Qd, Ed, q, r⟩) fun q => F2.run A outer s H args us vs Q E hr he hb hv ⟨ds, M, Qd, Ed, q, r⟩⟩
theorem fnOk_no {k : Nat} {f : Addr} {fd : FuncData} {ps : List Str} : FnOk P w K mg base (L2.CX P w) k f fd ps (liftSp K fun _ _ _ _ => False) :=
  ⟨fun vs H Q E ⟨ds, M, Qd, Ed, q, r⟩ => q.elim, fun A outer s H args us vs Q E hr he hb hv ⟨ds, M, Qd, Ed, q, r⟩ => q.elim⟩
end
/-! ### classes by their facts -/
theorem kitCls_of {K : PySem.W.Frag} {t : Value} {C : Addr} {b : Bool} (h1 : PySem.W.isClsIn K C = true) (h2 : PySem.W.typeIn K (.ref C) = some (.type "type")) (h3 : PySem.W.subIn K t (.ref C) = some b) : PySem.W.kitCls K t (.ref C) = some b := by
  have e2 : ((PySem.W.clsIn K C).isSome && PySem.W.typeIn K (.ref C) == some (.type "type")) = true := by
    have h1' : (PySem.W.clsIn K C).isSome = true := h1
    rw [h1', h2]
    rfl
  unfold PySem.W.kitCls
  simp only [e2, if_true]
  exact h3
theorem kit_ne {K : PySem.W.Frag} {a C : Addr} {b : Bool} (hn : (a == C) = false) (h1 : PySem.W.isClsIn K C = true) (h2 : PySem.W.typeIn K (.ref C) = some (.type "type")) (h3 : PySem.W.subIn K (.ref a) (.ref C) = some b) : PySem.W.kitOne K (.ref a) (.ref C) = some b := by
  have e : (Value.ref a == Value.ref C) = false := beq_eq_false_iff_ne.mpr fun e => by
    cases e
    rw [beq_self_eq_true] at hn
    cases hn
  unfold PySem.W.kitOne
  rw [if_neg (by rw [e]; exact Bool.false_ne_true)]
  exact kitCls_of h1 h2 h3
theorem kit_self {K : PySem.W.Frag} {a : Addr} : PySem.W.kitOne K (.ref a) (.ref a) = some true := by
  have e : (Value.ref a == Value.ref a) = true := beq_self_eq_true (Value.ref a)
  unfold PySem.W.kitOne
  rw [if_pos e]
theorem kit_bt {K : PySem.W.Frag} {a : Addr} {n : String} {b : Bool} (hm : PySem.W.kitMeta n = true) (h : PySem.W.subIn K (.ref a) (.type n) = some b) : PySem.W.kitOne K (.ref a) (.type n) = some b := by
  unfold PySem.W.kitOne
  have e : (Value.ref a == Value.type n) = false := beq_eq_false_iff_ne.mpr fun e => by cases e
  rw [if_neg (by rw [e]; exact Bool.false_ne_true)]
  unfold PySem.W.kitCls
  simp only [hm, if_true]
  exact h
theorem exm_sub {K : PySem.W.Frag} {t : Value} {C : Addr} {b : Bool} (h0 : PySem.W.subIn K (.ref C) (.type "BaseException") = some true) (h1 : PySem.W.isClsIn K C = true) (h2 : PySem.W.typeIn K (.ref C) = some (.type "type")) (h3 : PySem.W.subIn K t (.ref C) = some b) : PySem.W.exmOne K t (.ref C) = some b := by
  unfold PySem.W.exmOne
  rw [if_pos (by rw [h0]; rfl)]
  exact kitCls_of h1 h2 h3
theorem meta_VE : PySem.W.kitMeta "ValueError" = true := by decide +kernel
/-! ### the end of a law of a script -/
/-- what law(script) promises -/
def spScript (K : PySem.W.Frag) : DSp := fun ds M Q _ => ∃ (a : Addr) (ns : List Int), ds = [.ref a] ∧ (M a = some (.rol (ns.map D.int)) ∨ KL K a ns) ∧ ns.length ≤ 100000 ∧ (∀ z ∈ ns, Builtin.Int.intBits z ≤ 1048576) ∧ ∀ M1, Q (.bl true) M1
theorem walkD {l : PySem.W.OpenLaw} {n k : Nat} {q : Program} {loose : List Str} {XP : (Str → Option Value) → Heap → Prop} {YP : World → Heap → Prop} {d : DefRec} {K : Params → PySem.W.Frag} {x : Str} (hn : l.most = some n) (hn2 : n ≤ 100000) (hdf : d.params.defaults = []) (hr : Room k callerA)
    (hY : ∀ (w : World) (h : Heap), YP w h → (K w.params).In h)
    (F : ∀ (w : World) (mg : Str → Option Value) (fa : Addr) (h : Heap), (K w.params).In h → h.Ns mainGlobals mg → mg d.name = some (.ref fa) →
      ∃ fd : FuncData, (∀ (s : Shared) (u : Value), BindsTo s fd ⟨[u], []⟩ [(x, u)]) ∧ ∀ base : Heap, (K w.params).In base → base.Ns mainGlobals mg → FnOk l.prog w (K w.params) mg base (L2.CX l.prog w) k fa fd [x] (liftSp (K w.params) (spScript (K w.params)))) :
    PySem.W.WalkO q loose XP YP l.row.toRowW d [] (fun f vs => PySem.call f vs) :=
  L2.walk_ofB (n := n) (k := k) (x := x) (CX := fun w => L2.CX l.prog w) (sp := fun w => liftSp (K w.params) (spScript (K w.params))) hn (Nat.le_trans hn2 (by rw [PySem.sizeLine_eq]; omega)) hdf hr hY F
    (fun w H a ns hl hbits hO hS => by
      have fin : ∀ M, HR (K w.params) H M → (M a = some (.rol (ns.map D.int)) ∨ KL (K w.params) a ns) → liftSp (K w.params) (spScript (K w.params)) [.ref a] H (fun v _ => v = .bl true) fun _ _ _ => False := fun M hr hM =>
        ⟨[.ref a], M, fun d _ => d = .bl true, fun _ _ => False, ⟨a, ns, rfl, hM, Nat.le_trans hl hn2, hbits, fun _ => rfl⟩, .cons (.ref a) .nil, hr, fun d M' v H' e _ rv _ => by subst e; exact rv.toBl, fun _ _ _ _ _ h => h.elim⟩
      rcases hS with (h | ⟨o, h⟩) | h
      · rcases hO a with e | ⟨o, xs, e⟩
        · rw [e] at h; cases h
        · rw [e] at h; cases h
      · refine fin (fun b => if b = a then some (.rol (ns.map D.int)) else none) (fun b u e => ?_) (.inl (if_pos rfl))
        have e : (if b = a then some (MO.rol (ns.map D.int)) else none) = some u := e
        by_cases c : b = a
        · subst c
          rw [if_pos rfl] at e
          cases e
          exact ⟨o, _, h, RpL.ofInts⟩
        · rw [if_neg c] at e
          cases e
      · exact fin (fun _ => none) (fun b u e => by cases e) (.inr fun H' => .inr h))
    fun w H s e s' h => by
      obtain ⟨_, _, _, _, _, _, _, _, _, _, _, _, h⟩ := h
      exact h
end DL

set_option maxHeartbeats 4000000
namespace DL
open PySem PySem.Spec L2
/-! ### in, not in: flat items -/
def flatD : D → Bool
  | .non => true
  | .bl _ => true
  | .int _ => true
  | .str _ => true
  | .tup _ => false
  | .ref _ => false
  | .ty _ => false
theorem flatD_ok {K : PySem.W.Frag} {H : Hp} {v : V} {d : D} (r : Rp K H v d) (h : flatD d = true) : flatV v = true := by
  cases r <;> first | rfl | cases h
theorem flatL_ok {K : PySem.W.Frag} {H : Hp} : ∀ {vs : List V} {ds : List D}, RpL K H vs ds → ds.all flatD = true → vs.all flatV = true
  | _, _, .nil, _ => rfl
  | _, _, .cons r l, h => by
    rw [List.all_cons, Bool.and_eq_true] at h
    rw [List.all_cons, flatD_ok r h.1, flatL_ok l h.2]
    rfl
theorem eqV_flat {K : PySem.W.Frag} {H : Hp} {v u : V} {d e : D} (r : Rp K H v d) (q : Rp K H u e) (h : flatD d = true) (h' : flatD e = true) : eqV v u = eqb d e := by
  cases r <;> cases q <;> first | rfl | (simp [eqV, eqb]; done) | cases h | cases h'
theorem inV_flat {K : PySem.W.Frag} {H : Hp} {u : V} {e : D} (q : Rp K H u e) (h' : flatD e = true) : ∀ {vs : List V} {ds : List D}, RpL K H vs ds → ds.all flatD = true → inV u vs = ds.any fun d => eqb d e
  | _, _, .nil, _ => rfl
  | _, _, .cons r l, h => by
    rw [List.all_cons, Bool.and_eq_true] at h
    have := inV_flat q h' l h.2
    unfold inV at this ⊢
    rw [List.any_cons, List.any_cons, this, eqV_flat r q h.1 h']
/-- the items of a list or a tuple -/
def seqD (d : D) (M : Mp) : Option (List D) := match d with
  | .tup xs => some xs
  | .ref a => seqOf M a
  | _ => none
theorem seqD_ok {K : PySem.W.Frag} {H : Hp} {M : Mp} {v : V} {d : D} {ds : List D} (r : Rp K H v d) (hr : HR K H M) (h : seqD d M = some ds) : ∃ a vs, v = .ref a ∧ (SqL K H a vs ∨ SqT K H a vs) ∧ RpL K H vs ds := by
  cases d with
  | tup xs =>
    cases h
    obtain ⟨a, vs, rfl, s, l⟩ := r.toTup
    exact ⟨a, vs, rfl, .inr s, l⟩
  | ref a =>
    have h' : seqOf M a = some ds := h
    obtain ⟨vs, s, l⟩ := seqOf_ok hr h'
    exact ⟨a, vs, r.toRef, .inl s, l⟩
  | _ => cases h
def inG (n : Bool) : DO := fun x y M Q => match seqD y M with
  | some ys => flatD x = true ∧ ys.all flatD = true ∧ Q (.bl (n != ys.any fun d => eqb d x)) M
  | none => False
section
variable {X : Cx} {W : DW} {pos p : Pos}
theorem op_inG : OpR X (compareOp .In) (liftO X.K (inG false)) := OpRimp op_in_seq fun x y H Q ⟨dx, dy, M, Qd, q, a, b, c, k⟩ => by
  unfold inG at q
  split at q
  · rename_i ys e
    obtain ⟨l, vs, rfl, s, r⟩ := seqD_ok b c e
    refine ⟨l, vs, rfl, s, flatD_ok a q.1, flatL_ok r q.2.1, ?_⟩
    rw [inV_flat a q.1 r q.2.1]
    exact k _ M _ H (by simpa using q.2.2) .refl (.bl _) c
  · exact q.elim
theorem op_notInG : OpR X (compareOp .NotIn) (liftO X.K (inG true)) := OpRimp op_notIn_seq fun x y H Q ⟨dx, dy, M, Qd, q, a, b, c, k⟩ => by
  unfold inG at q
  split at q
  · rename_i ys e
    obtain ⟨l, vs, rfl, s, r⟩ := seqD_ok b c e
    refine ⟨l, vs, rfl, s, flatD_ok a q.1, flatL_ok r q.2.1, ?_⟩
    rw [inV_flat a q.1 r q.2.1]
    exact k _ M _ H (by simpa using q.2.2) .refl (.bl _) c
  · exact q.elim
/-! ### methods of built-in things -/
abbrev DM := D → List D → Mp → DK → Prop
def liftM (K : PySem.W.Frag) (g : DM) : V → List V → Hp → VK → Prop := fun x xs H Q => ∃ d ds M Qd, g d ds M Qd ∧ Rp K H x d ∧ RpL K H xs ds ∧ HR K H M ∧ KC K H Qd Q
/-- what has the methods of T -/
def metT (T : String) (d : D) (M : Mp) : Prop := match d with
  | .str _ => T = "str"
  | .ref a => match M a with
    | some (.lst _) => T = "list"
    | some (.rol _) => T = "list"
    | some (.dk _) => T = "dict"
    | _ => False
  | _ => False
theorem metT_ok {K : PySem.W.Frag} {H : Hp} {M : Mp} {v : V} {d : D} {T : String} (r : Rp K H v d) (hr : HR K H M) (h : metT T d M) : tyV K T v H := by
  cases d with
  | str x => cases r; exact h
  | ref a =>
    cases r
    have h' : (match M a with
      | some (.lst _) => T = "list"
      | some (.rol _) => T = "list"
      | some (.dk _) => T = "dict"
      | _ => False) := h
    cases e : M a with
    | none => rw [e] at h'; exact h'.elim
    | some o =>
      rw [e] at h'
      cases o with
      | lst xs => obtain ⟨vs, q, _⟩ := hr.lst e; exact .inl ⟨h', vs, .of q⟩
      | rol xs => obtain ⟨o, vs, q, _⟩ := hr.rol e; exact .inl ⟨h', vs, .inl (.inr ⟨o, q⟩)⟩
      | dk xs => obtain ⟨vs, q, _⟩ := hr.dk e; exact .inr (.inr (.inl ⟨h', .inl ⟨vs, q⟩⟩))
      | ins C xs => exact h'.elim
      | xd xs => exact h'.elim
      | rdk xs => exact h'.elim
  | _ => exact h.elim
def dBM (T : String) (g : DM) (to : DE) (t : DA) : DE := fun τ M Q E => to τ M (fun d M1 => metT T d M1 ∧ t τ M1 (fun ds M2 => g d ds M2 Q) E) E
theorem dBM_lift {T : String} {g : DM} {to : DE} {t : DA} {σ : L2.St} {H : Hp} {Q : VK} (h : liftE X.K W (dBM T g to t) σ H Q) : tBM X.K T (liftM X.K g) (liftE X.K W to) (liftA X.K W t) σ H Q := by
  obtain ⟨τ, M, Qd, Ed, hs, hr, q, we, k⟩ := h
  refine ⟨τ, M, _, Ed, hs, hr, q, we, fun d M1 v H1 q1 e1 r1 h1 => ⟨metT_ok r1 h1 q1.1, τ, M1, _, Ed, hs.mono e1, h1, q1.2, we, fun ds M2 vs H2 q2 e2 r2 h2 => ?_⟩⟩
  exact ⟨d, ds, M2, Qd, q2, r1.mono e2, r2, h2, k.mono (e1.trans e2)⟩
variable {o e : Expr} {es : List Expr} {to : DE} {t : DA} {name : Str} {apos cpos : Pos} {T id : String} {g : DM}
theorem pd_bm (pa : PlainAttrs T) (slot : Slot T name id) (hty : typeOf (.builtin id) = pure (.type "method_descriptor")) (hm : MtR X id (liftM X.K g)) (ho : PD X W o to) (ha : PAD X W (e :: es) t)
    (hbase : attributeBase o name X.env (eval o X.env) = eval o X.env := by rfl)
    (hfew : ((backTo cpos (starEach (e :: es) X.env)).all (fun x => !x.1) && (backToKw cpos (keywordEach [] X.env)).all (fun x => x.1.isSome)
      && decide ((e :: es).length + ([] : List Keyword).length + (if ([] : List Keyword).isEmpty then 0 else 1) < 30)) = true := by rfl)
    (hline : (apos.endLine == cpos.line) = true := by rfl) (hs : starEach (e :: es) X.env = (false, eval e X.env) :: starEach es X.env := by rfl) (hplain : (backTo cpos (starEach es X.env)).any (·.1) = false := by rfl) :
    PD X W (.Call (.Attribute o name apos) (e :: es) [] cpos) (dBM T g to t) := ⟨PEimp (pe_bm pa slot hty hm ho.run ha.run hbase hfew hline hs hplain) fun _ _ _ h => dBM_lift h⟩
theorem pd_bm0 (pa : PlainAttrs T) (slot : Slot T name id) (hty : typeOf (.builtin id) = pure (.type "method_descriptor")) (hm : MtR X id (liftM X.K g)) (ho : PD X W o to)
    (hbase : attributeBase o name X.env (eval o X.env) = eval o X.env := by rfl) (hline : (apos.endLine == cpos.line) = true := by rfl) :
    PD X W (.Call (.Attribute o name apos) [] [] cpos) (dBM T g to dNil) := ⟨PEimp (pe_bm0 pa slot hty hm ho.run hbase hline) fun σ H Q ⟨τ, M, Qd, Ed, hs, hr, q, we, k⟩ =>
  ⟨τ, M, _, Ed, hs, hr, q, we, fun d M1 v H1 q1 e1 r1 h1 => ⟨metT_ok r1 h1 q1.1, d, [], M1, Qd, q1.2, r1, .nil, h1, k.mono e1⟩⟩⟩
theorem MtRimp {r r' : V → List V → Hp → VK → Prop} (h : MtR X id r) (i : ∀ x xs H Q, r' x xs H Q → r x xs H Q) : MtR X id r' := fun pins s σ H x xs v us Q I rx rs q => h pins s σ H x xs v us Q I rx rs (i x xs H Q q)
/-- a list is written anew -/
theorem KC.wrote {K : PySem.W.Frag} {H : Hp} {M : Mp} {Qd : DK} {Q : VK} {v : V} {d : D} {xs xs' : List V} {ds' : List D} {a : Addr} (k : KC K H Qd Q) (hr : HR K H M) (hv : H a = some (.lst xs)) (l : RpL K H xs' ds') (r : Rp K H v d) (q : Qd d (put M a (.lst ds'))) : Q v (upd H a (.lst xs')) := by
  have e : TExt K H (upd H a (.lst xs')) := .upd (noTup_lst hv)
  exact k d _ v _ q e (r.mono e) (hr.made (noTup_lst hv) ⟨xs', upd_same, l.mono e⟩)
def appendM : DM := fun d ds M Q => match d, ds with
  | .ref a, [y] => match M a with
    | some (.lst xs) => xs.length < sizeLine ∧ Q .non (put M a (.lst (xs ++ [y])))
    | _ => False
  | _, _ => False
theorem mt_appendM : MtR X "list.append" (liftM X.K appendM) := MtRimp mt_append fun x xs H Q ⟨d, ds, M, Qd, q, rx, rs, hr, k⟩ => by
  unfold appendM at q
  split at q
  · rename_i a y
    obtain ⟨v, rfl, rv⟩ := rs.one
    split at q
    · rename_i ys e
      obtain ⟨vs, hv, l⟩ := hr.lst e
      exact ⟨a, vs, v, rx.toRef, rfl, hv, by rw [l.length]; exact q.1, k.wrote hr hv (l.append (.cons rv .nil)) .non q.2⟩
    · exact q.elim
  · exact q.elim
def extendM : DM := fun d ds M Q => match d, ds with
  | .ref a, [.ref b] => match M a, M b with
    | some (.lst xs), some (.lst ys) => xs.length + ys.length ≤ sizeLine ∧ Q .non (put M a (.lst (xs ++ ys)))
    | _, _ => False
  | _, _ => False
theorem mt_extendM : MtR X "list.extend" (liftM X.K extendM) := MtRimp mt_extend fun x xs H Q ⟨d, ds, M, Qd, q, rx, rs, hr, k⟩ => by
  unfold extendM at q
  split at q
  · rename_i a b
    obtain ⟨v, rfl, rv⟩ := rs.one
    split at q
    · rename_i xs ys e1 e2
      obtain ⟨vs, hv, l⟩ := hr.lst e1
      obtain ⟨us, hu, l2⟩ := hr.lst e2
      exact ⟨a, b, vs, us, rx.toRef, by rw [rv.toRef], hv, hu, by rw [l.length, l2.length]; exact q.1, k.wrote hr hv (l.append l2) .non q.2⟩
    · exact q.elim
  · exact q.elim
def reverseM : DM := fun d ds M Q => match d, ds with
  | .ref a, [] => match M a with
    | some (.lst xs) => Q .non (put M a (.lst xs.reverse))
    | _ => False
  | _, _ => False
theorem mt_reverseM : MtR X "list.reverse" (liftM X.K reverseM) := MtRimp mt_reverse fun x xs H Q ⟨d, ds, M, Qd, q, rx, rs, hr, k⟩ => by
  unfold reverseM at q
  split at q
  · rename_i a
    split at q
    · rename_i xs e1
      obtain ⟨vs, hv, l⟩ := hr.lst e1
      exact ⟨a, vs, rx.toRef, rs.nil_of, hv, k.wrote hr hv l.reverse .non q⟩
    · exact q.elim
  · exact q.elim
theorem RpL.erase {K : PySem.W.Frag} {H : Hp} : ∀ {xs : List V} {ds : List D} (i : Nat), RpL K H xs ds → RpL K H (xs.eraseIdx i) (ds.eraseIdx i)
  | _, _, _, .nil => by simpa using RpL.nil
  | _, _, 0, .cons _ l => l
  | _, _, i + 1, .cons r l => .cons r (RpL.erase i l)
/-- pop(i), i not below 0 -/
def popM : DM := fun d ds M Q => match d, ds with
  | .ref a, [.int i] => match M a with
    | some (.lst xs) => 0 ≤ i ∧ i < xs.length ∧ xs.length ≤ sizeLine ∧ match xs[i.toNat]? with
      | some y => Q y (put M a (.lst (xs.eraseIdx i.toNat)))
      | none => False
    | _ => False
  | .ref a, [] => match M a with
    | some (.lst xs) => match xs[xs.length - 1]? with
      | some y => Q y (put M a (.lst xs.dropLast))
      | none => False
    | _ => False
  | _, _ => False
theorem mt_popM : MtR X "list.pop" (liftM X.K popM) := MtRimp (MtR.or mt_popAt mt_pop) fun x xs H Q ⟨d, ds, M, Qd, q, rx, rs, hr, k⟩ => by
  unfold popM at q
  split at q
  · rename_i a i
    obtain ⟨v, rfl, rv⟩ := rs.one
    split at q
    · rename_i xs e1
      obtain ⟨vs, hv, l⟩ := hr.lst e1
      obtain ⟨h0, h1, h2, q⟩ := q
      split at q
      · rename_i y ey
        obtain ⟨u, hu, ru⟩ := l.get ey
        rw [sizeLine_eq] at h2
        refine .inl ⟨a, vs, i, i.toNat, u, rx.toRef, by rw [rv.toInt], hv, by omega, by omega, ?_, hu, k.wrote hr hv (l.erase _) ru q⟩
        have := (ixN_seq (n := vs.length) (i := i) (j := i.toNat) (ixN_in h0 (by rw [l.length]; exact h1))).1
        exact this
      · exact q.elim
    · exact q.elim
  · rename_i a
    split at q
    · rename_i xs e1
      obtain ⟨vs, hv, l⟩ := hr.lst e1
      split at q
      · rename_i y ey
        rw [← l.length] at ey
        obtain ⟨u, hu, ru⟩ := l.get ey
        exact .inr ⟨a, vs, u, rx.toRef, rs.nil_of, hv, hu, k.wrote hr hv l.dropLast ru q⟩
      · exact q.elim
    · exact q.elim
  · exact q.elim
/-! ### sums -/
def intsOf : List D → Option (List Int)
  | [] => some []
  | .int i :: ds => (intsOf ds).map (i :: ·)
  | _ :: _ => none
theorem intsOf_map : ∀ ns : List Int, intsOf (ns.map D.int) = some ns
  | [] => rfl
  | n :: ns => by simp [intsOf, intsOf_map ns]
theorem intsOf_ok : ∀ {ds : List D} {ns : List Int}, intsOf ds = some ns → ds = ns.map D.int
  | [], ns, h => by cases h; rfl
  | d :: ds, ns, h => by
    cases d with
    | int b =>
      have h' : (intsOf ds).map (b :: ·) = some ns := h
      cases e : intsOf ds with
      | none => rw [e] at h'; cases h'
      | some cs => rw [e] at h'; cases h'; rw [intsOf_ok e]; rfl
    | _ => cases h
def sumG : DG := fun ds M Q => match ds with
  | [.ref a] => match (seqOf M a).bind intsOf with
    | some ns => Q (.int ns.sum) M
    | none => False
  | _ => False
theorem call_sumG (hc : X.calm = true) : CallR X (.builtin "sum") (liftC X.K sumG) := CallRimp (cr_sum hc) fun xs H Q ⟨ds, M, Qd, q, r, hr, k⟩ => by
  unfold sumG at q
  split at q
  · obtain ⟨v, rfl, rv⟩ := r.one
    split at q
    · rename_i ns e
      obtain ⟨zs, e1, e2⟩ := Option.bind_eq_some_iff.mp e
      obtain ⟨vs, s, l⟩ := seqOf_ok hr e1
      rw [intsOf_ok e2] at l
      rw [l.ints] at s
      exact ⟨_, ns, by rw [rv.toRef], s, k _ M _ H q .refl (.int _) hr⟩
    · exact q.elim
  · exact q.elim
/-! ### range(i, j, -1), zip -/
variable {tg : Expr} {ta : DA}
def dRngD (ta : DA) : DI := fun τ M Q E => ta τ M (fun ds M1 => match ds with
  | [.int i, .int j, .int c] => c = -1 ∧ (-(2 ^ 62) ≤ i ∧ i < 2 ^ 62 ∧ -(2 ^ 62) ≤ j ∧ j < 2 ^ 62) ∧ i - j ≤ 16777216 ∧ Q ((List.range (i - j).toNat).map fun k => D.int (i - (k : Nat))) (fun _ => True) M1
  | _ => False) E
theorem RpL.three {K : PySem.W.Frag} {H : Hp} {vs : List V} {d d' d2 : D} (h : RpL K H vs [d, d', d2]) : ∃ v v' v2, vs = [v, v', v2] ∧ Rp K H v d ∧ Rp K H v' d' ∧ Rp K H v2 d2 := by
  cases h with
  | cons r l => obtain ⟨v, v', rfl, q⟩ := l.two; exact ⟨_, _, _, rfl, r, q⟩
theorem itOk_down {K : PySem.W.Frag} {H : Hp} {hi : Int} {n : Nat} (hz : n ≤ sizeLine) : ItOk K H (Itc hi (-1) n) ((List.range n).map fun i => D.int (hi - (i : Nat))) fun _ => True where
  small := by simpa using hz
  go := fun i H1 M e _ _ hi => show i < n by simpa using hi
  stop := fun i H1 M e _ _ hi => show n ≤ i by simpa using hi
  yld := fun i H1 M x H2 e _ _ y => by
    obtain ⟨rfl, rfl⟩ := y
    refine ⟨.refl, fun _ h => h, fun d hd => ?_⟩
    obtain ⟨_, rfl⟩ := rng_at hd
    have e : hi + ((i : Nat) : Int) * (-1) = hi - ((i : Nat) : Int) := by omega
    rw [e]
    exact .int _
theorem pid_rngD {a b c : Expr} (hg : Gl X "range") (hm : X.mg "range" = none) (ha : PAD X W [a, b, c] ta)
    (hs : starEach [a, b, c] X.env = (false, eval a X.env) :: starEach [b, c] X.env := by rfl) (hpl : (backTo pos (starEach [b, c] X.env)).any (·.1) = false := by rfl) : PID X W tg (.Call (.Name "range" p) [a, b, c] [] pos) (dRngD ta) :=
  ⟨PIimp (pi_range3 hg hm ha.run hs hpl) fun σ H R ⟨τ, M, Qd, Ed, hs, hr, q, we, k⟩ => ⟨τ, M, _, Ed, hs, hr, q, we, fun ds M1 vs H1 q1 e1 r1 h1 => by
    split at q1
    · rename_i i j c
      obtain ⟨v, v', v2, rfl, rv, rv', rv2⟩ := r1.three
      obtain ⟨rfl, c1, c2, q1⟩ := q1
      refine ⟨i, j, -1, (i - j).toNat, by rw [rv.toInt, rv'.toInt, rv2.toInt], RgC.neg c1.1 c1.2.1 c1.2.2.1 c1.2.2.2, k _ _ _ M1 H1 q1 e1 h1 (itOk_down (by rw [sizeLine_eq]; omega))⟩
    · exact q1.elim⟩⟩
end
end DL

set_option maxHeartbeats 4000000
namespace DLdict
open PySem
section
variable {prog : Program} {w : World} {K : Type} [DecidableEq K] {kd : KeyKind prog w K} {A : Around} {E : Value → Shared → Prop} {s : Shared}
/-- one pair is put, without the rules of d[k] = v -/
theorem put_pairs {a : Addr} {ps : List (K × Value)} {k : K} {kv v : Value} {Q : Unit → Shared → Prop} (hk : kd.is k kv = true) (hm : s.heap.DictOf kd a ps) (hz : ps.length ≤ sizeLine)
    (hQ : ∀ h', h'.DictOf kd a (stored ps k v) → Heap.SameBut a s.heap h' → Q () { s with heap := h' }) : wpAny (model prog w) A (dictPut a (kd.hash k) kv v) Q E s := by
  obtain ⟨ob, en, epo, g1, g2, g3, g4, g5, g6⟩ := hm
  have hen : en.size ≤ sizeLine := by
    have e1 := g5.length
    rw [Array.length_toList] at e1
    omega
  unfold dictPut
  refine wpAny_bind (wpAny_dictFind_of hk g1 g3 g4 ?_)
  have same : (en.findIdx? fun e => kd.is k e.key) = ps.findIdx? fun q => decide (q.1 = k) := by
    rw [← g5.findIdx k]
    obtain ⟨l⟩ := en
    simp
  cases hi : en.findIdx? fun e => kd.is k e.key with
  | some i =>
    have yes := any_of_findIdx_some (same ▸ hi)
    refine wpAny_updateDict g1 g3 (hQ _ ⟨_, _, epo, Heap.get?_update_self _ g1 (Obj.isFreed_of_dict (Obj.data_mapDict g3 _)), g2.mapDict _, Obj.data_mapDict g3 _, g4.modify _ _, ?_, ?_⟩ (Heap.SameBut.update ..))
    · have at_ : (en.toList.findIdx? fun e => kd.is k e.key) = some i := by
        rw [← hi]
        obtain ⟨l⟩ := en
        simp
      have r := g5.modify g6 at_ v
      rw [stored, if_pos yes]
      obtain ⟨l⟩ := en
      simpa using r
    · rw [stored, if_pos yes, keys_map_store]
      exact g6
  | none =>
    have out : k ∉ ps.map (·.1) := not_mem_of_findIdx_none (same ▸ hi)
    have no : ¬ (ps.any fun q => decide (q.1 = k)) = true := fun h => by
      obtain ⟨q, hq, e⟩ := List.any_eq_true.mp h
      exact out (List.mem_map.mpr ⟨q, hq, of_decide_eq_true e⟩)
    refine wpAny_updateDictKeys (hz := hen) g1 g3 (hQ _ ⟨_, _, epo + 1, Heap.get?_update_self _ g1 (Obj.isFreed_of_dict (Obj.data_mapDictKeys g3 _)), g2.mapDictKeys _, Obj.data_mapDictKeys g3 _, g4.push hk _, ?_, ?_⟩ (Heap.SameBut.update ..))
    · have r := g5.append hk (kd.hash k) v
      rw [stored, if_neg no]
      obtain ⟨l⟩ := en
      simpa using r
    · rw [stored, if_neg no, List.map_append]
      refine List.nodup_append.mpr ⟨g6, by simp, fun x hx y hy e => ?_⟩
      have : y = k := by simpa using hy
      subst this
      exact out (e ▸ hx)
/-- what {**o} does with a plain dict o -/
theorem merge_map {a o : Addr} {ps more : List (K × Value)} {Q : Unit → Shared → Prop} (hao : a ≠ o) (hoS : (o == sysModules) = false) (flat : ∀ (k : K) (v : Value), kd.is k v = true → ∀ b, v ≠ .ref b)
    (hd : s.heap.DictOf kd a ps) (ho : s.heap.DictOf kd o more) (hz : ps.length + more.length ≤ sizeLine)
    (hQ : ∀ h', h'.DictOf kd a (merged ps more) → h'.DictOf kd o more → Heap.SameBut a s.heap h' → Q () { s with heap := h' }) : wpAny (model prog w) A (mergeMapping a (.ref o) false) Q E s := by
  obtain ⟨od, ed, pd, d1, d2, d3, d4, d5, d6⟩ := id hd
  obtain ⟨oo, eo, po, o1, o2, o3, o4, o5, o6⟩ := id ho
  have hlen : more.length = eo.size := by rw [← o5.length, Array.length_toList]
  have hty := ho.typeIs
  unfold mergeMapping
  refine wpAny_bind (wpAny_isInstance hty F.sub_dict_dict ?_)
  dsimp only
  rw [if_pos rfl]
  refine wpAny_bind (wpAny_specialOf hty F.slot_dict_iter.lookup (wpAny_bind (wpAny_pure ?_)))
  have ey : ((some (Value.builtin "dict.__iter__") : Option Value) == some (.builtin "dict.__iter__")) = true := by simp
  rw [ey]
  dsimp only
  rw [if_neg (by rw [hoS]; exact Bool.false_ne_true)]
  refine wpAny_bind (wpAny_dictEntries d1 d3 ?_)
  have loop : wpAny (model prog w) A (do
      let en ← dictEntries o
      let epo ← dictEpoch o
      forIn (List.range en.size) PUnit.unit fun i (_ : PUnit) => (do
        let en2 ← dictEntries o
        match en2[i]? with
        | some e => do
          holding [e.key, e.val] (dictPut a e.hash e.key e.val)
          let epo2 ← dictEpoch o
          if (epo2 != epo) = true then do
              (unsupported "dict.changed-during-merge" : Sem PUnit)
              pure (ForInStep.yield PUnit.unit)
            else pure (ForInStep.yield PUnit.unit)
        | _ => do
          (unsupported "dict.changed-during-merge" : Sem PUnit)
          pure (ForInStep.yield PUnit.unit) : Sem (ForInStep PUnit))
      pure ()) Q E s := by
    refine wpAny_bind (wpAny_dictEntries o1 o3 ?_)
    refine wpAny_bind (wpAny_dictEpoch o1 o3 ?_)
    refine wpAny_bind ?_
    rw [List.range_eq_range']
    refine wpAny_forIn_list _ (fun rest _ s' => ∃ h' i, s' = { s with heap := h' } ∧ rest = List.range' i (eo.size - i) ∧ i ≤ eo.size ∧ h'.DictOf kd a (merged ps (more.take i)) ∧ h'.get? o = some oo ∧ Heap.SameBut a s.heap h')
      _ ?_ ?_ _ _ ⟨s.heap, 0, rfl, by simp, Nat.zero_le _, by simpa [merged] using hd, o1, Heap.SameBut.refl _ _⟩
    · rintro x rest b s' ⟨h', i, rfl, hr, hi, hd', hoo', hs'⟩
      have hlt : i < eo.size := by
        by_cases c : i < eo.size
        · exact c
        · have e0 : eo.size - i = 0 := by omega
          rw [e0] at hr
          cases hr
      have step : eo.size - i = (eo.size - (i + 1)) + 1 := by omega
      rw [step, List.range'_succ] at hr
      injection hr with hx hrest
      subst hx
      refine wpAny_bind (wpAny_dictEntries hoo' o3 ?_)
      rw [Array.getElem?_eq_getElem hlt]
      obtain ⟨⟨k, v⟩, hkv⟩ : ∃ q, more[x]? = some q := ⟨more[x]'(by rw [hlen]; exact hlt), List.getElem?_eq_getElem _⟩
      obtain ⟨hkey, hval⟩ := o5.get? (e := eo[x]) (by simp [hlt]) hkv
      obtain ⟨k', hkey', hhash⟩ := o4 eo[x] (Array.getElem_mem hlt)
      obtain rfl : k' = k := kd.inj _ _ _ hkey' hkey
      show wpAny _ _ (holding [eo[x].key, eo[x].val] (dictPut a eo[x].hash eo[x].key eo[x].val) >>= _) _ _ _
      rw [hhash, hval]
      have hmx : (merged ps (more.take x)).length ≤ sizeLine := by
        have e1 := merged_length_le ps (more.take x)
        rw [List.length_take] at e1
        omega
      refine wpAny_bind (wpAny_holding (put_pairs hkey hd' hmx fun h2 hd2 hs2 => ?_))
      have hoo2 : h2.get? o = some oo := (hs2.2 o (Ne.symm hao)).trans hoo'
      refine wpAny_bind (wpAny_dictEpoch hoo2 o3 ?_)
      rw [if_neg (by simp)]
      exact wpAny_pure ⟨h2, x + 1, rfl, hrest, hlt, by rw [merged_take_succ ps more x (k', v) hkv]; exact hd2, hoo2, hs'.trans hs2⟩
    · rintro b s' ⟨h', i, rfl, hr, hi, hd', hoo', hs'⟩
      have hin : i = eo.size := by
        by_cases c : i < eo.size
        · have step : eo.size - i = (eo.size - (i + 1)) + 1 := by omega
          rw [step, List.range'_succ] at hr
          cases hr
        · omega
      refine wpAny_pure (hQ h' ?_ ⟨oo, eo, po, hoo', o2, o3, o4, o5, o6⟩ hs')
      rw [hin, ← hlen, List.take_length] at hd'
      exact hd'
  split
  · refine wpAny_bind (wpAny_dictEntries o1 o3 ?_)
    refine wpAny_bind ?_
    have still : (forIn eo PUnit.unit fun e (_ : PUnit) => (match e.key with
        | Value.ref b => do
          let r ← specialOf e.key (Str.ofString "__eq__")
          if (r != some (Value.builtin "object.__eq__")) = true then
            if (Array.filter (fun x => x.hash == e.hash) eo).size > 1 then do
              (unsupported "dict.merge-into-an-empty-dict:keys-of-equal-hash" : Sem PUnit)
              pure (ForInStep.yield PUnit.unit)
            else pure (ForInStep.yield PUnit.unit)
          else pure (ForInStep.yield PUnit.unit)
        | _ => pure (ForInStep.yield PUnit.unit) : Sem (ForInStep PUnit))) = pure PUnit.unit := by
      rw [← Array.forIn_toList]
      refine forIn_yield_id _ fun e he c => ?_
      obtain ⟨k, hkey, _⟩ := o4 e (Array.mem_toList_iff.mp he)
      have nr := flat k _ hkey
      cases e2 : e.key with
      | ref b => exact absurd e2 (nr b)
      | _ => rfl
    exact wpAny_of_eq still loop
  · exact loop
end
end DLdict

set_option maxHeartbeats 4000000
namespace DLdict
open PySem L2
section
variable {prog : Program} {w : World} {K : Type} [DecidableEq K] {kd : KeyKind prog w K} {A : Around} {E : Value → Shared → Prop} {s : Shared}
/-- {**e, k: v} -/
theorem star_display {te tk tv : Sem Value} {Q : Value → Shared → Prop} (flat : ∀ (k : K) (v : Value), kd.is k v = true → ∀ b, v ≠ .ref b)
    (h : wpAny (model prog w) A te (fun m s1 => ∃ (o : Addr) (kvs : List (K × Value)), m = .ref o ∧ s.heap.objs.size ≠ o ∧ (o == sysModules) = false ∧ s1.heap.DictOf kd s.heap.objs.size [] ∧ s1.heap.DictOf kd o kvs ∧ kvs.length ≤ 100000 ∧
      ∀ h2, h2.DictOf kd s.heap.objs.size (merged [] kvs) → Heap.SameBut s.heap.objs.size s1.heap h2 →
        wpAny (model prog w) A (evalPairs [(tk, tv)]) (fun vs s3 => ∃ prs xs : List (K × Value), prs.length ≤ 1 ∧ xs.length ≤ 100000 ∧ Carries kd vs prs ∧ s3.heap.DictOf kd h2.objs.size [] ∧ s3.heap.DictOf kd s.heap.objs.size xs ∧ s.heap.objs.size ≠ h2.objs.size ∧ (h2.objs.size == sysModules) = false ∧
          ∀ h4 h5, h4.DictOf kd h2.objs.size (merged [] prs) → Heap.SameBut h2.objs.size s3.heap h4 → h5.DictOf kd s.heap.objs.size (merged xs (merged [] prs)) → h5.DictOf kd h2.objs.size (merged [] prs) → Heap.SameBut s.heap.objs.size h4 h5 →
            Q (.ref s.heap.objs.size) { s3 with heap := h5, toks := s3.toks + vs.length }) E { s1 with heap := h2.push { cls := .type "dict", data := .dict #[] } }) E
      { s with heap := s.heap.push { cls := .type "dict", data := .dict #[] } }) : wpAny (model prog w) A (dictDisplay [(none, te), (some tk, tv)]) Q E s := by
  unfold dictDisplay
  simp only [List.forIn_cons, List.forIn_nil, List.isEmpty_nil, if_true, pure_bind, List.nil_append, List.length_singleton, bind_assoc, Nat.reduceBEq, Bool.false_eq_true, if_false, List.isEmpty_cons]
  refine wpAny_bind (wpAny_alloc ?_)
  refine wpAny_bind (wpAny_holding (wpAny_mono h (fun m s1 h1 => ?_) fun _ _ e => e))
  obtain ⟨o, kvs, rfl, hne, hoS, dn, dk, hz, h1⟩ := h1
  refine wpAny_bind (wpAny_onRaise (wpAny_tryCatch (wpAny_onRaise (wpAny_holding (merge_map hne hoS flat dn dk (by rw [List.length_nil, sizeLine_eq]; omega) fun h2 m2 k2 sb2 => ?_)))))
  refine wpAny_bind (wpAny_holding (wpAny_subDict (knd := kd) (by show 1 ≤ 15; omega) (wpAny_mono (h1 h2 m2 sb2) (fun vs s3 q3 => ?_) fun _ _ e => e)))
  obtain ⟨prs, xs, hv1, hx1, hc, e0, e1, hn2, hS2, fin⟩ := q3
  refine ⟨prs, hc, e0, fun h4 m4 sb4 => ?_⟩
  have hl1 := merged_length_le ([] : List (K × Value)) kvs
  have hl2 := merged_length_le ([] : List (K × Value)) prs
  rw [List.length_nil] at hl1 hl2
  refine wpAny_bind (wpAny_onRaise (wpAny_holding (merge_map (more := merged [] prs) hn2 hS2 flat (e1.sameBut sb4 hn2) m4 (by rw [sizeLine_eq]; omega) fun h5 m5 k5 sb5 => ?_)))
  refine wpAny_pure ?_
  exact fin h4 h5 m4 sb4 m5 k5 sb5
theorem mix_flat {prog : Program} {w : World} (k : Key) (v : Value) (h : (mixKind prog w).is k v = true) (b : Addr) : v ≠ .ref b := by
  rintro rfl
  rcases keyIs_shape h with ⟨i, t, _, e⟩ | ⟨x, t, _, e⟩ <;> cases e
/-- {**e, k: v}: p the new dict, q the one that holds k: v on its way -/
def tDStar (te tk tv : TE) : TE := fun σ H Q => ∀ p, H p = none → te σ (upd H p (.dK [])) fun x H1 => ∃ (o : Addr) (kvs : List (Key × V)), x = .ref o ∧ Rd H1 o (.dK kvs) ∧ p ≠ o ∧ H1 p = some (.dK []) ∧ kvs.length ≤ 100000 ∧
  ∀ q, upd H1 p (.dK (mergeK [] kvs)) q = none → tk σ (upd (upd H1 p (.dK (mergeK [] kvs))) q (.dK [])) fun y H2 => tv σ H2 fun z H3 => ∃ k ws, y = kV k ∧ H3 q = some (.dK []) ∧ H3 p = some (.dK ws) ∧ ws.length ≤ 100000 ∧ p ≠ q ∧
    Q (.ref p) (upd (upd H3 q (.dK [(k, z)])) p (.dK (putK ws k z)))
theorem pe_dstar {X : Cx} {e k v : Expr} {te tk tv : TE} {pos : Pos} (he : PE X e te) (hk : PE X k tk) (hv : PE X v tv) : PE X (.Dict [none, some k] [e, v] pos) (tDStar te tk tv) := by
  refine ⟨fun pins s σ H Q I hq => ?_⟩
  have hn := I.hok.fresh (Nat.le_refl s.heap.objs.size)
  have I1 := I.laid (a := s.heap.objs.size) (o := .dK []) (h' := s.heap.push { cls := .type "dict", data := .dict #[] }) (t' := s.toks) (fun _ _ z => Heap.get?_push_of_some _ z) (Nat.le_refl _) (dk_empty s.heap I.big)
  rw [arm_eval_Dict]
  refine wpAny_bind (wpAny_standAt (star_display (kd := mixKind X.prog X.w) (fun k v h b => mix_flat k v h b) (te := do let x ← eval e X.env; standAt pos; pure x) (tk := eval k X.env) (tv := do let x ← eval v X.env; standAt pos; pure x) ?_))
  refine wpAny_bind (thn (he.run pins _ σ _ _ I1 (hq _ hn)) fun u s1 ⟨x, H1, I2, rx, o, kvs, ex, rd, hpo, h0, hz, q1⟩ => wpAny_bind (wpAny_standAt (wpAny_pure ?_)))
  subst ex
  obtain rfl : u = Value.ref o := rx
  obtain ⟨z1, hoS, vs, rel, dd⟩ := dk_rd I2.hok rd
  obtain ⟨z0, hpS, vs0, rel0, dd0⟩ := dk_of I2.hok h0
  cases rel0
  refine ⟨o, vs, rfl, hpo, hoS, dd0, dd, by rw [← rel.length]; exact hz, fun h2 m2 sb2 => ?_⟩
  have zl : (mergeK [] kvs).length ≤ sizeLine := by
    have := length_mergeK kvs []
    rw [List.length_nil] at this
    rw [sizeLine_eq]; omega
  have ex2 : ∃ c, h2.get? s.heap.objs.size = some c := let ⟨c, _, _, hc, _⟩ := m2; ⟨c, hc⟩
  have I3 := d_write (t' := s1.toks) I2 (by rw [h0]; exact True.intro) sb2 ex2 (dk_new zl hpS (rel.merge .nil) m2)
  have hn3 := I3.hok.fresh (Nat.le_refl h2.objs.size)
  have I4 := I3.laid (a := h2.objs.size) (o := .dK []) (h' := h2.push { cls := .type "dict", data := .dict #[] }) (t' := s1.toks) (fun _ _ z => Heap.get?_push_of_some _ z) (Nat.le_refl _) (dk_empty h2 I3.big)
  refine thn ((pps_cons (pos := pos) hk hv pps_nil).run pins _ σ _ (fun ps H3 => match ps with
    | [(y, z)] => ∃ k ws, y = kV k ∧ H3 h2.objs.size = some (.dK []) ∧ H3 s.heap.objs.size = some (.dK ws) ∧ ws.length ≤ 100000 ∧ s.heap.objs.size ≠ h2.objs.size ∧
      Q (.ref s.heap.objs.size) (upd (upd H3 h2.objs.size (.dK [(k, z)])) s.heap.objs.size (.dK (putK ws k z)))
    | _ => False) I4 (q1 _ hn3)) fun ws s3 ⟨ps, H3, I5, rv, q5⟩ => ?_
  have one : ∃ y z, ps = [(y, z)] := by
    split at q5
    · exact ⟨_, _, rfl⟩
    · exact q5.elim
  obtain ⟨y, z, rfl⟩ := one
  obtain ⟨kk, wk, rfl, hq3, hp3, lwk, npq, fin⟩ := q5
  obtain ⟨prs, c, rk⟩ := carries_of (P := X.prog) (w := X.w) (kvs := [(kk, z)]) rv
  obtain ⟨y0, hqS, w0, r0, dq⟩ := dk_of I5.hok hq3
  cases r0
  obtain ⟨y1, _, w1, r1, dp⟩ := dk_of I5.hok hp3
  have lp : prs.length ≤ 1 := by rw [← rk.length]; exact Nat.le_refl 1
  have lw : w1.length ≤ 100000 := by rw [← r1.length]; exact lwk
  refine ⟨prs, w1, lp, lw, c, dq, dp, npq, hqS, fun h4 h5 m4 sb4 m5 k5 sb5 => ?_⟩
  have ex4 : ∃ c, h4.get? h2.objs.size = some c := let ⟨c, _, _, hc, _⟩ := m4; ⟨c, hc⟩
  have ex5 : ∃ c, h5.get? s.heap.objs.size = some c := let ⟨c, _, _, hc, _⟩ := m5; ⟨c, hc⟩
  have I6 := d_write (t' := s3.toks) I5 (by rw [hq3]; exact True.intro) sb4 ex4 (dk_new (kvs := mergeK [] [(kk, z)]) (by rw [sizeLine_eq]; have := length_mergeK [(kk, z)] []; simp at this; omega) hqS (rk.merge .nil) m4)
  have eo : upd H3 h2.objs.size (.dK (mergeK [] [(kk, z)])) s.heap.objs.size = some (.dK wk) := by rw [upd_ne npq]; exact hp3
  have I7 := d_write (t' := s3.toks + ws.length) I6 (by rw [eo]; exact True.intro) sb5 ex5 (dk_new (kvs := mergeK wk (mergeK [] [(kk, z)])) (by
    have h1 := length_mergeK (mergeK [] [(kk, z)]) wk
    have h2 := length_mergeK [(kk, z)] []
    rw [List.length_nil] at h2
    rw [List.length_singleton] at h2
    rw [sizeLine_eq]
    omega) hpS ((rk.merge .nil).merge r1) m5)
  exact ⟨.ref s.heap.objs.size, _, I7, rfl, fin⟩
end
end DLdict

set_option maxHeartbeats 4000000
namespace DLdict
open PySem L2
/-! ### d.copy() -/
def rCopy : V → List V → Hp → VK → Prop := fun x xs H Q => ∃ (a : Addr) (kvs : List (Key × V)), x = .ref a ∧ xs = [] ∧ H a = some (.dK kvs) ∧ ∀ p, H p = none → Q (.ref p) (upd H p (.dK kvs))
theorem mt_copy {X : Cx} : MtR X "dict.copy" rCopy := by
  intro pins s σ H x xs v us Q I rx rs ⟨a, kvs, ex, es, ha, q⟩
  subst ex; subst es
  cases rs
  obtain rfl : v = Value.ref a := rx
  obtain ⟨z, hS, vs, rel, dd⟩ := dk_of I.hok ha
  refine call_meetsIn PySem.F.slot_dict_copy dd.typeIs PySem.F.entry_dict_copy (PySem.F.args_dict_copy_1 _) (meets_dict_copy (mixKind X.prog X.w) a hS) ⟨vs, dd, by rw [← rel.length]; exact z, fun h' n1 n2 k => ?_⟩
  have hn := I.hok.fresh (Nat.le_refl s.heap.objs.size)
  have hp : (s.heap.objs.size == sysModules) = false := beq_eq_false_iff_ne.mpr (Ne.symm (Nat.ne_of_lt I.big))
  exact ⟨.ref s.heap.objs.size, _, I.laid (a := s.heap.objs.size) (o := .dK kvs) (t' := s.toks) k (Nat.le_refl _) (dk_new z hp rel n1), rfl, q _ hn⟩
end DLdict
namespace DL
open PySem PySem.Spec L2
/-! ### dicts whose keys are ints or texts -/
def keyD : D → Option Key
  | .int i => some (.inl i)
  | .str x => some (.inr x)
  | _ => none
theorem keyD_ok {K : PySem.W.Frag} {H : Hp} {v : V} {d : D} {k : Key} (r : Rp K H v d) (h : keyD d = some k) : v = kV k := by
  cases d with
  | int i => cases h; exact r.toInt
  | str x => cases h; exact r.toStr
  | _ => cases h
def valD (kvs : List (Key × D)) (k : Key) : Option D := (kvs.find? fun q => decide (q.1 = k)).map (·.2)
def putKD (kvs : List (Key × D)) (k : Key) (d : D) : List (Key × D) := if (kvs.any fun q => decide (q.1 = k)) = true then kvs.map (fun q => if q.1 = k then (q.1, d) else q) else kvs ++ [(k, d)]
def mergeKD (kvs more : List (Key × D)) : List (Key × D) := more.foldl (fun acc q => putKD acc q.1 q.2) kvs
section
variable {K : PySem.W.Frag} {H : Hp}
theorem KD.length : ∀ {vs : List (Key × V)} {ds : List (Key × D)}, KD K H vs ds → vs.length = ds.length
  | [], [], _ => rfl
  | _ :: _, _ :: _, h => by simp [KD.length h.2.2]
  | [], _ :: _, h => h.elim
  | _ :: _, [], h => h.elim
theorem KD.any {k : Key} : ∀ {vs : List (Key × V)} {ds : List (Key × D)}, KD K H vs ds → (vs.any fun q => decide (q.1 = k)) = ds.any fun q => decide (q.1 = k)
  | [], [], _ => rfl
  | p :: _, q :: _, h => by rw [List.any_cons, List.any_cons, KD.any h.2.2, h.1]
  | [], _ :: _, h => h.elim
  | _ :: _, [], h => h.elim
theorem KD.get {k : Key} : ∀ {vs : List (Key × V)} {ds : List (Key × D)}, KD K H vs ds → ∀ d, valD ds k = some d → ∃ v, valV vs k = some v ∧ Rp K H v d
  | [], [], _, d, e => by cases e
  | p :: ps, q :: qs, h, d, e => by
    by_cases c : q.1 = k
    · have e' : some q.2 = some d := by simpa [valD, List.find?_cons, c] using e
      cases e'
      exact ⟨p.2, valV_pos (h.1.trans c), h.2.1⟩
    · have e' : valD qs k = some d := by simpa [valD, List.find?_cons, c] using e
      obtain ⟨v, e1, r⟩ := KD.get h.2.2 d e'
      exact ⟨v, by rw [valV_neg (fun z => c (h.1.symm.trans z))]; exact e1, r⟩
  | [], _ :: _, h, _, _ => h.elim
  | _ :: _, [], h, _, _ => h.elim
theorem KD.got {k : Key} : ∀ {vs : List (Key × V)} {ds : List (Key × D)}, KD K H vs ds → (valV vs k).isSome = (valD ds k).isSome
  | [], [], _ => rfl
  | p :: ps, q :: qs, h => by
    by_cases c : q.1 = k
    · have e' : valD (q :: qs) k = some q.2 := by simp [valD, List.find?_cons, c]
      rw [valV_pos (h.1.trans c), e']
      rfl
    · have e' : valD (q :: qs) k = valD qs k := by simp [valD, List.find?_cons, c]
      rw [valV_neg (fun z => c (h.1.symm.trans z)), e']
      exact KD.got h.2.2
  | [], _ :: _, h => h.elim
  | _ :: _, [], h => h.elim
theorem KD.over {k : Key} {v : V} {d : D} (r : Rp K H v d) : ∀ {vs : List (Key × V)} {ds : List (Key × D)}, KD K H vs ds → KD K H (vs.map fun q => if q.1 = k then (q.1, v) else q) (ds.map fun q => if q.1 = k then (q.1, d) else q)
  | [], [], _ => True.intro
  | p :: _, q :: _, h => by
    rw [List.map_cons, List.map_cons]
    by_cases c : q.1 = k
    · rw [if_pos c, if_pos (h.1.trans c)]
      exact ⟨h.1, r, KD.over r h.2.2⟩
    · rw [if_neg c, if_neg (fun z => c (h.1.symm.trans z))]
      exact ⟨h.1, h.2.1, KD.over r h.2.2⟩
  | [], _ :: _, h => h.elim
  | _ :: _, [], h => h.elim
theorem KD.snoc {k : Key} {v : V} {d : D} (r : Rp K H v d) : ∀ {vs : List (Key × V)} {ds : List (Key × D)}, KD K H vs ds → KD K H (vs ++ [(k, v)]) (ds ++ [(k, d)])
  | [], [], _ => ⟨rfl, r, True.intro⟩
  | p :: _, q :: _, h => ⟨h.1, h.2.1, KD.snoc r h.2.2⟩
  | [], _ :: _, h => h.elim
  | _ :: _, [], h => h.elim
theorem KD.put {k : Key} {v : V} {d : D} (r : Rp K H v d) {vs : List (Key × V)} {ds : List (Key × D)} (h : KD K H vs ds) : KD K H (putK vs k v) (putKD ds k d) := by
  unfold putK putKD
  rw [h.any]
  split
  · exact h.over r
  · exact h.snoc r
theorem KD.merge : ∀ {more : List (Key × V)} {moreD : List (Key × D)} {vs : List (Key × V)} {ds : List (Key × D)}, KD K H more moreD → KD K H vs ds → KD K H (mergeK vs more) (mergeKD ds moreD)
  | [], [], _, _, _, h => h
  | p :: ps, q :: qs, vs, ds, m, h => by
    have e : KD K H (putK vs p.1 p.2) (putKD ds q.1 q.2) := by
      rw [m.1]
      exact h.put m.2.1
    exact KD.merge (more := ps) (moreD := qs) m.2.2 e
  | [], _ :: _, _, _, m, _ => m.elim
  | _ :: _, [], _, _, m, _ => m.elim
/-- a dict is new, or written anew -/
theorem KC.dict {M : Mp} {Qd : DK} {Q : VK} {vs : List (Key × V)} {ds : List (Key × D)} {p : Addr} (k : KC K H Qd Q) (hr : HR K H M) (l : KD K H vs ds) (hp : H p = none) (q : ∀ p, M p = none → Qd (.ref p) (put M p (.dk ds))) : Q (.ref p) (upd H p (.dK vs)) :=
  k _ _ _ _ (q p (hr.free hp)) (.new hp) (.ref p) (hr.made (noTup_none hp) ⟨vs, upd_same, l.mono (.new hp)⟩)
theorem HR.dictAt {M : Mp} {a : Addr} {vs vs' : List (Key × V)} {ds' : List (Key × D)} (hr : HR K H M) (hv : H a = some (.dK vs)) (l : KD K H vs' ds') : TExt K H (upd H a (.dK vs')) ∧ HR K (upd H a (.dK vs')) (DL.put M a (.dk ds')) := by
  have e : TExt K H (upd H a (.dK vs')) := .upd (noTup_dK hv)
  exact ⟨e, hr.made (noTup_dK hv) ⟨vs', upd_same, l.mono e⟩⟩
end
section
variable {X : Cx} {W : DW} {pos p : Pos} {o e i k v f : Expr} {td ty te tk tv tx : DE}
def dDNew : DE := fun _ M Q _ => ∀ p, M p = none → Q (.ref p) (put M p (.dk []))
theorem pd_dnew : PD X W (.Dict [] [] pos) dDNew := ⟨PEimp pe_dnewK fun σ H Q ⟨τ, M, Qd, Ed, hs, hr, q, we, kk⟩ p hp => kk.dict hr (vs := []) (ds := []) True.intro hp q⟩
/-- the dict at d -/
def dictOf (d : D) (M : Mp) : Option (List (Key × D)) := match d with
  | .ref a => match M a with
    | some (.dk kvs) => some kvs
    | _ => none
  | _ => none
theorem dictOf_ok {K : PySem.W.Frag} {H : Hp} {M : Mp} {x : V} {d : D} {kvs : List (Key × D)} (r : Rp K H x d) (hr : HR K H M) (h : dictOf d M = some kvs) : ∃ a vs, x = .ref a ∧ d = .ref a ∧ M a = some (.dk kvs) ∧ H a = some (.dK vs) ∧ KD K H vs kvs := by
  cases d with
  | ref a =>
    have h' : (match M a with | some (.dk kvs) => some kvs | _ => none) = some kvs := h
    cases e : M a with
    | none => rw [e] at h'; cases h'
    | some ob =>
      rw [e] at h'
      cases ob with
      | dk xs => cases h'; obtain ⟨vs, q, l⟩ := hr.dk e; exact ⟨a, vs, r.toRef, rfl, e, q, l⟩
      | _ => cases h'
  | _ => cases h
/-- a dict that is read -/
def dictRd (d : D) (M : Mp) : Option (List (Key × D)) := match d with
  | .ref a => match M a with
    | some (.dk kvs) => some kvs
    | some (.rdk kvs) => some kvs
    | _ => none
  | _ => none
theorem dictRd_ok {K : PySem.W.Frag} {H : Hp} {M : Mp} {x : V} {d : D} {kvs : List (Key × D)} (r : Rp K H x d) (hr : HR K H M) (h : dictRd d M = some kvs) : ∃ a vs, x = .ref a ∧ d = .ref a ∧ Rd H a (.dK vs) ∧ KD K H vs kvs := by
  cases d with
  | ref a =>
    have h' : (match M a with | some (.dk kvs) => some kvs | some (.rdk kvs) => some kvs | _ => none) = some kvs := h
    cases e : M a with
    | none => rw [e] at h'; cases h'
    | some ob =>
      rw [e] at h'
      cases ob with
      | dk xs => cases h'; obtain ⟨vs, q, l⟩ := hr.dk e; exact ⟨a, vs, r.toRef, rfl, .inl q, l⟩
      | rdk xs => cases h'; obtain ⟨o, vs, q, l⟩ : ∃ o vs, H a = some (.frz o (.dK vs)) ∧ KD K H vs kvs := hr a _ e; exact ⟨a, vs, r.toRef, rfl, .inr ⟨o, q⟩, l⟩
      | _ => cases h'
  | _ => cases h
def dDGet (td ty : DE) : DE := fun τ M Q E => td τ M (fun x M1 => ty τ M1 (fun y M2 => match dictRd x M2, keyD y with
  | some kvs, some k => match valD kvs k with
    | some v => Q v M2
    | none => False
  | _, _ => False) E) E
theorem pd_dget (hu : X.A.units + 1 < cLine) (ho : PD X W o td) (hi : PD X W i ty) (hs : NoSl i) : PD X W (.Subscript o i pos) (dDGet td ty) :=
  ⟨PEimp (pe_dget hu ho.run hi.run hs) fun σ H Q ⟨τ, M, Qd, Ed, hs, hr, q, we, kk⟩ => ⟨τ, M, _, Ed, hs, hr, q, we, fun x M1 xv H1 q1 e1 r1 h1 => ⟨τ, M1, _, Ed, hs.mono e1, h1, q1, we, fun y M2 yv H2 q2 e2 r2 h2 => by
    dsimp only at q2
    split at q2
    · rename_i kvs k ed ek
      split at q2
      · rename_i w ew
        obtain ⟨a, vs, rfl, rfl, hv, l⟩ := dictRd_ok (r1.mono e2) h2 ed
        obtain ⟨u, hu, ru⟩ := l.get _ ew
        exact ⟨a, u, rfl, .inl ⟨vs, k, hv, keyD_ok r2 ek, hu.symm⟩, kk _ M2 _ H2 q2 (e1.trans e2) ru h2⟩
      · exact q2.elim
    · exact q2.elim⟩⟩⟩
/-- y in d, y not in d -/
def dDIn (n : Bool) (ty td : DE) : DE := fun τ M Q E => ty τ M (fun y M1 => td τ M1 (fun x M2 => match dictRd x M2, keyD y with
  | some kvs, some k => Q (.bl (n != (valD kvs k).isSome)) M2
  | _, _ => False) E) E
theorem dDIn_read {K : PySem.W.Frag} {n : Bool} {σ : L2.St} {H : Hp} {Q : VK} (h : liftE K W (dDIn n ty td) σ H Q) : liftE K W ty σ H fun y H1 => liftE K W td σ H1 fun x H2 => ∃ (a : Addr) (ob : Option V), x = .ref a ∧ DGet H2 a y ob ∧ Q (.bl (n != ob.isSome)) H2 := by
  obtain ⟨τ, M, Qd, Ed, hs, hr, q, we, kk⟩ := h
  refine ⟨τ, M, _, Ed, hs, hr, q, we, fun y M1 yv H1 q1 e1 r1 h1 => ⟨τ, M1, _, Ed, hs.mono e1, h1, q1, we, fun x M2 xv H2 q2 e2 r2 h2 => ?_⟩⟩
  dsimp only at q2
  split at q2
  · rename_i kvs k ed ek
    obtain ⟨a, vs, rfl, rfl, hv, l⟩ := dictRd_ok r2 h2 ed
    refine ⟨a, _, rfl, .inl ⟨vs, k, hv, keyD_ok (r1.mono e2) ek, rfl⟩, ?_⟩
    rw [l.got]
    exact kk _ M2 _ H2 q2 (e1.trans e2) (.bl _) h2
  · exact q2.elim
theorem pd_din (hu : X.A.units + 1 < cLine) (hi : PD X W i ty) (ho : PD X W o td) (hm : behindInMarks .In o = false := by with_unfolding_all rfl) : PD X W (.Compare i [.In] [o] pos) (dDIn false ty td) :=
  ⟨PEimp (pe_cmp (pc_din hu hi.run ho.run) hm) fun σ H Q h => by
    have := dDIn_read h
    simpa [tDIn] using this⟩
theorem pd_dnotin (hu : X.A.units + 1 < cLine) (hi : PD X W i ty) (ho : PD X W o td) (hm : behindInMarks .NotIn o = false := by with_unfolding_all rfl) : PD X W (.Compare i [.NotIn] [o] pos) (dDIn true ty td) :=
  ⟨PEimp (pe_cmp (pc_dnotin hu hi.run ho.run) hm) fun σ H Q h => by
    have := dDIn_read h
    simpa [tDNotIn] using this⟩
/-- {**e, k: v} -/
def dDStar (te tk tv : DE) : DE := fun τ M Q E => ∀ p, M p = none → te τ (put M p (.dk [])) (fun d M1 => match dictRd d M1 with
  | some kvs => d ≠ .ref p ∧ M1 p = some (.dk []) ∧ kvs.length ≤ 100000 ∧ ∀ q, put M1 p (.dk (mergeKD [] kvs)) q = none → tk τ (put (put M1 p (.dk (mergeKD [] kvs))) q (.dk [])) (fun y M2 => tv τ M2 (fun z M3 => match keyD y with
    | some k => M3 q = some (.dk []) ∧ M3 p = some (.dk (mergeKD [] kvs)) ∧ Q (.ref p) (put (put M3 q (.dk [(k, z)])) p (.dk (putKD (mergeKD [] kvs) k z)))
    | none => False) E) E
  | none => False) E
theorem pd_dstar (he : PD X W e te) (hk : PD X W k tk) (hv : PD X W v tv) : PD X W (.Dict [none, some k] [e, v] pos) (dDStar te tk tv) := by
  refine ⟨PEimp (DLdict.pe_dstar he.run hk.run hv.run) fun σ H Q ⟨τ, M, Qd, Ed, hs, hr, q, we, kk⟩ p hp => ?_⟩
  have e0 : TExt X.K H (upd H p (.dK [])) := .new hp
  have hr0 : HR X.K (upd H p (.dK [])) (put M p (.dk [])) := hr.made (noTup_none hp) ⟨[], upd_same, True.intro⟩
  refine ⟨τ, _, _, Ed, hs.mono e0, hr0, q p (hr.free hp), we, fun d M1 xv H1 q1 e1 r1 h1 => ?_⟩
  dsimp only at q1
  split at q1
  · rename_i kvs ed
    obtain ⟨a, vs, rfl, rfl, hv1, l⟩ := dictRd_ok r1 h1 ed
    obtain ⟨hne, hp1, hz, q1⟩ := q1
    obtain ⟨w0, hw0, l0⟩ := h1.dk hp1
    have : w0 = [] := List.length_eq_zero_iff.mp l0.length
    subst this
    have lm : KD X.K H1 (mergeK [] vs) (mergeKD [] kvs) := KD.merge l True.intro
    obtain ⟨e2, h2⟩ := HR.dictAt h1 hw0 lm
    refine ⟨a, vs, rfl, hv1, fun z => hne (by rw [z]), hw0, by rw [l.length]; exact hz, fun q hq => ?_⟩
    have npq : p ≠ q := by
      rintro rfl
      rw [upd_same] at hq
      cases hq
    have e3 : TExt X.K (upd H1 p (.dK (mergeK [] vs))) (upd (upd H1 p (.dK (mergeK [] vs))) q (.dK [])) := .new hq
    have h3 : HR X.K (upd (upd H1 p (.dK (mergeK [] vs))) q (.dK [])) (put (put M1 p (.dk (mergeKD [] kvs))) q (.dk [])) := h2.made (noTup_none hq) ⟨[], upd_same, True.intro⟩
    have e03 := ((e0.trans e1).trans e2).trans e3
    refine ⟨τ, _, _, Ed, hs.mono e03, h3, q1 q (h2.free hq), we, fun y M2 yv H4 q4 e4 r4 h4 => ⟨τ, M2, _, Ed, hs.mono (e03.trans e4), h4, q4, we, fun z M3 zv H5 q5 e5 r5 h5 => ?_⟩⟩
    dsimp only at q5
    split at q5
    · rename_i kx ek
      obtain ⟨c1, c2, q5⟩ := q5
      obtain ⟨w1, hw1, l1⟩ := h5.dk c1
      have : w1 = [] := List.length_eq_zero_iff.mp l1.length
      subst this
      obtain ⟨w2, hw2, l2⟩ := h5.dk c2
      have e05 := (e03.trans e4).trans e5
      have lw : w2.length ≤ 100000 := by
        have h6 := l2.length
        have h7 := lm.length
        have h8 := length_mergeK vs []
        have h9 := l.length
        rw [List.length_nil] at h8
        omega
      refine ⟨kx, w2, keyD_ok (r4.mono e5) ek, hw1, hw2, lw, npq, ?_⟩
      have l5 : KD X.K H5 [(kx, zv)] [(kx, z)] := ⟨rfl, r5, True.intro⟩
      obtain ⟨e6, h6⟩ := HR.dictAt h5 hw1 l5
      have hp6 : upd H5 q (.dK [(kx, zv)]) p = some (.dK w2) := by rw [upd_ne npq]; exact hw2
      obtain ⟨e7, h7⟩ := HR.dictAt h6 hp6 ((l2.mono e6).put (k := kx) (r5.mono e6))
      exact kk _ _ _ _ q5 ((e05.trans e6).trans e7) (.ref p) h7
    · exact q5.elim
  · exact q1.elim
end
end DL

set_option maxHeartbeats 4000000
namespace DL
open PySem PySem.Spec L2
/-! ### a dict that is walked stays as it is: it is read only meanwhile -/
section
variable {K : PySem.W.Frag} {H H' : Hp}
mutual
theorem Rp.monoT (e : ∀ a xs, SqT K H a xs → SqT K H' a xs) : ∀ {v : V} {d : D}, Rp K H v d → Rp K H' v d
  | _, _, .non => .non
  | _, _, .bl b => .bl b
  | _, _, .int b => .int b
  | _, _, .str b => .str b
  | _, _, .ref b => .ref b
  | _, _, .ty b => .ty b
  | _, _, .tup h l => .tup (e _ _ h) (RpL.monoT e l)
theorem RpL.monoT (e : ∀ a xs, SqT K H a xs → SqT K H' a xs) : ∀ {v : List V} {d : List D}, RpL K H v d → RpL K H' v d
  | _, _, .nil => .nil
  | _, _, .cons h l => .cons (Rp.monoT e h) (RpL.monoT e l)
end
theorem KD.monoT (e : ∀ a xs, SqT K H a xs → SqT K H' a xs) : ∀ {ps : List (Key × V)} {qs : List (Key × D)}, KD K H ps qs → KD K H' ps qs
  | [], [], h => h
  | p :: ps, q :: qs, h => ⟨h.1, h.2.1.monoT e, KD.monoT e h.2.2⟩
  | [], _ :: _, h => h.elim
  | _ :: _, [], h => h.elim
theorem FD.monoT (e : ∀ a xs, SqT K H a xs → SqT K H' a xs) : ∀ {ps : List (Str × V)} {qs : List (Str × D)}, FD K H ps qs → FD K H' ps qs
  | [], [], h => h
  | p :: ps, q :: qs, h => ⟨h.1, h.2.1.monoT e, FD.monoT e h.2.2⟩
  | [], _ :: _, h => h.elim
  | _ :: _, [], h => h.elim
theorem TExt.unlock {a : Addr} {o : Obj} {u : HO} (hu : H a = some u) (nf : NoTup (some u)) (e : TExt K (L2.upd H a (.frz o u)) H') : TExt K H (L2.upd H' a u) := by
  refine ⟨fun p xs h => ?_, fun p o' w h => ?_⟩
  · rcases h with (h | ⟨q, h⟩) | h
    · have n : p ≠ a := by rintro rfl; rw [hu] at h; cases h; exact nf
      have h1 : SqT K (L2.upd H a (.frz o u)) p xs := .inl (.inl (by rw [upd_ne n]; exact h))
      rcases e.tup _ _ h1 with (h2 | ⟨q2, h2⟩) | h2
      · exact .inl (.inl (by rw [upd_ne n]; exact h2))
      · exact .inl (.inr ⟨q2, by rw [upd_ne n]; exact h2⟩)
      · exact .inr h2
    · have n : p ≠ a := by rintro rfl; rw [hu] at h; cases h; exact nf
      have h1 : SqT K (L2.upd H a (.frz o u)) p xs := .inl (.inr ⟨q, by rw [upd_ne n]; exact h⟩)
      rcases e.tup _ _ h1 with (h2 | ⟨q2, h2⟩) | h2
      · exact .inl (.inl (by rw [upd_ne n]; exact h2))
      · exact .inl (.inr ⟨q2, by rw [upd_ne n]; exact h2⟩)
      · exact .inr h2
    · exact .inr h
  · have n : p ≠ a := by rintro rfl; rw [hu] at h; cases h; exact nf
    have h1 : L2.upd H a (.frz o u) p = some (.frz o' w) := by rw [upd_ne n]; exact h
    have h2 := e.frz _ _ _ h1
    rw [upd_ne n]; exact h2
end
section
variable {X : Cx} {W : DW}
def dLockN (a : Addr) (kvs : List (Key × D)) (Dn : DN) : DN where
  nx := fun τ M => M a = some (.rdk kvs) ∧ Dn.nx τ (put M a (.dk kvs))
  rt := fun d M => M a = some (.rdk kvs) ∧ Dn.rt d (put M a (.dk kvs))
  bk := fun τ M => M a = some (.rdk kvs) ∧ Dn.bk τ (put M a (.dk kvs))
  ct := fun τ M => M a = some (.rdk kvs) ∧ Dn.ct τ (put M a (.dk kvs))
  ex := Dn.ex
def dLock (t : DS) : DS := fun Dn τ M => ∃ a kvs, M a = some (.dk kvs) ∧ t (dLockN a kvs Dn) τ (put M a (.rdk kvs))
def dLockE (t : DE) : DE := fun τ M Q E => ∃ a kvs, M a = some (.dk kvs) ∧ t τ (put M a (.rdk kvs)) (fun d M1 => M1 a = some (.rdk kvs) ∧ Q d (put M1 a (.dk kvs))) E
/-- the lock itself -/
theorem HR.lock {K : PySem.W.Frag} {H : Hp} {M : Mp} {a : Addr} {o : Obj} {vs : List (Key × V)} {kvs : List (Key × D)} (hr : HR K H M) (hv : H a = some (.dK vs)) (l : KD K H vs kvs) : TExt K H (upd H a (.frz o (.dK vs))) ∧ HR K (upd H a (.frz o (.dK vs))) (DL.put M a (.rdk kvs)) := by
  have e : TExt K H (upd H a (.frz o (.dK vs))) := .upd (noTup_dK hv)
  exact ⟨e, hr.made (noTup_dK hv) ⟨o, vs, upd_same, l.mono e⟩⟩
theorem sqT_unlock {K : PySem.W.Frag} {H : Hp} {a : Addr} {o : Obj} {vs : List (Key × V)} (hf : H a = some (.frz o (.dK vs))) (p : Addr) (xs : List V) (h : SqT K H p xs) : SqT K (L2.upd H a (.dK vs)) p xs := by
  have n : p ≠ a ∨ ∃ ob its m, K.lookup p = some ob ∧ ob.cls = .type "tuple" ∧ ob.data = .seq its m ∧ its.size ≤ sizeLine ∧ Vals xs its.toList := by
    rcases h with (h | ⟨q, h⟩) | ⟨ob, its, m, r⟩
    · exact .inl (by rintro rfl; rw [hf] at h; cases h)
    · exact .inl (by rintro rfl; rw [hf] at h; cases h)
    · exact .inr ⟨ob, its, m, r⟩
  rcases n with n | r
  · rcases h with (h | ⟨q, h⟩) | h
    · exact .inl (.inl (by rw [upd_ne n]; exact h))
    · exact .inl (.inr ⟨q, by rw [upd_ne n]; exact h⟩)
    · exact .inr h
  · exact .inr r
/-- .. and its end -/
theorem HR.unlock {K : PySem.W.Frag} {H : Hp} {M : Mp} {a : Addr} {o : Obj} {vs : List (Key × V)} {kvs : List (Key × D)} (hr : HR K H M) (hf : H a = some (.frz o (.dK vs))) (hM : M a = some (.rdk kvs)) :
    HR K (upd H a (.dK vs)) (DL.put M a (.dk kvs)) := by
  obtain ⟨o1, vs1, h1, l⟩ : ∃ o vs, H a = some (.frz o (.dK vs)) ∧ KD K H vs kvs := hr a _ hM
  rw [hf] at h1
  cases h1
  have tt := sqT_unlock (K := K) hf
  intro b ob hb
  by_cases c : b = a
  · subst c
    rw [put_same] at hb
    cases hb
    exact ⟨vs, upd_same, KD.monoT tt l⟩
  · rw [put_ne c] at hb
    have h0 := hr b ob hb
    cases ob with
    | lst ds => obtain ⟨xs, q, r⟩ := h0; exact ⟨xs, (upd_ne c).trans q, RpL.monoT tt r⟩
    | rol ds => obtain ⟨o, xs, q, r⟩ := h0; exact ⟨o, xs, (upd_ne c).trans q, RpL.monoT tt r⟩
    | dk ds => obtain ⟨xs, q, r⟩ := h0; exact ⟨xs, (upd_ne c).trans q, KD.monoT tt r⟩
    | ins C ds => obtain ⟨dx, xs, q, r⟩ := h0; exact ⟨dx, xs, (upd_ne c).trans q, FD.monoT tt r⟩
    | xd ds => obtain ⟨xs, q, r⟩ := h0; exact ⟨xs, (upd_ne c).trans q, FD.monoT tt r⟩
    | rdk ds => obtain ⟨o, xs, q, r⟩ := h0; exact ⟨o, xs, (upd_ne c).trans q, KD.monoT tt r⟩
theorem RS.unlock {K : PySem.W.Frag} {H0 H' : Hp} {σ : L2.St} {τ : Sl} {a : Addr} {vs : List (Key × V)} (h : RS K H0 H' σ τ) (tt : ∀ p xs, SqT K H' p xs → SqT K (upd H' a (.dK vs)) p xs) (e : TExt K H0 (upd H' a (.dK vs))) : RS K H0 (upd H' a (.dK vs)) σ τ :=
  ⟨e, h.len, fun i d q => by
    obtain ⟨v, h1, r⟩ := h.at_ i d q
    exact ⟨v, h1, Rp.monoT tt r⟩⟩
theorem psd_lock {st : Stmt} {t : DS} (h : PSD X W st t) : PSD X W st (dLock t) := ⟨PSimp (ps_lock h.run) fun De σ H ⟨τ, M, Dd, hs, hr, ⟨a, kvs, ha, q⟩, we, nc⟩ => by
  obtain ⟨vs, hv, l⟩ := hr.dk ha
  refine ⟨a, .dK vs, hv, True.intro, fun od => ?_⟩
  obtain ⟨e1, h1⟩ := HR.lock (o := od) hr hv l
  have nf : NoTup (some (HO.dK vs)) := True.intro
  have at1 : ∀ {H' : Hp}, TExt X.K (upd H a (.frz od (.dK vs))) H' → H' a = some (.frz od (.dK vs)) := fun e => e.frz _ _ _ upd_same
  refine ⟨τ, _, dLockN a kvs Dd, hs.mono e1, h1, q, we, ?_, ?_, ?_, ?_⟩
  · intro τ' M' σ' H' q' e rs hr'
    exact ⟨at1 e, nc.nx τ' _ σ' _ q'.2 (TExt.unlock hv nf e) (rs.unlock (sqT_unlock (at1 e)) (hs.ext.trans (TExt.unlock hv nf e))) (hr'.unlock (at1 e) q'.1)⟩
  · intro d M' v H' q' e rv hr'
    exact ⟨at1 e, nc.rt d _ v _ q'.2 (TExt.unlock hv nf e) (rv.monoT (sqT_unlock (at1 e))) (hr'.unlock (at1 e) q'.1)⟩
  · intro τ' M' σ' H' q' e rs hr'
    exact ⟨at1 e, nc.bk τ' _ σ' _ q'.2 (TExt.unlock hv nf e) (rs.unlock (sqT_unlock (at1 e)) (hs.ext.trans (TExt.unlock hv nf e))) (hr'.unlock (at1 e) q'.1)⟩
  · intro τ' M' σ' H' q' e rs hr'
    exact ⟨at1 e, nc.ct τ' _ σ' _ q'.2 (TExt.unlock hv nf e) (rs.unlock (sqT_unlock (at1 e)) (hs.ext.trans (TExt.unlock hv nf e))) (hr'.unlock (at1 e) q'.1)⟩⟩
theorem pd_lock {e : Expr} {t : DE} (h : PD X W e t) : PD X W e (dLockE t) := ⟨PEimp (pe_lock h.run) fun σ H Q ⟨τ, M, Qd, Ed, hs, hr, ⟨a, kvs, ha, q⟩, we, k⟩ => by
  obtain ⟨vs, hv, l⟩ := hr.dk ha
  refine ⟨a, .dK vs, hv, True.intro, fun od => ?_⟩
  obtain ⟨e1, h1⟩ := HR.lock (o := od) hr hv l
  have nf : NoTup (some (HO.dK vs)) := True.intro
  have at1 : ∀ {H' : Hp}, TExt X.K (upd H a (.frz od (.dK vs))) H' → H' a = some (.frz od (.dK vs)) := fun e => e.frz _ _ _ upd_same
  refine ⟨τ, _, _, Ed, hs.mono e1, h1, q, we, fun d M' v H' q' e rv hr' => ?_⟩
  exact ⟨at1 e, k d _ v _ q'.2 (TExt.unlock hv nf e) (rv.monoT (sqT_unlock (at1 e))) (hr'.unlock (at1 e) q'.1)⟩⟩
def ofKey : Key → D
  | .inl i => .int i
  | .inr x => .str x
theorem ofKey_rp {K : PySem.W.Frag} {H : Hp} (k : Key) : Rp K H (kV k) (ofKey k) := by
  cases k with
  | inl i => exact .int i
  | inr x => exact .str x
/-- the keys of a dict that is locked -/
def dKeys (te : DE) : DI := fun τ M Q E => te τ M (fun d M1 => match d with
  | .ref a => match M1 a with
    | some (.rdk kvs) => kvs.length ≤ sizeLine ∧ Q (kvs.map fun q => ofKey q.1) (fun M => M a = some (.rdk kvs)) M1
    | _ => False
  | _ => False) E
theorem KD.keyAt {K : PySem.W.Frag} {H : Hp} : ∀ {vs : List (Key × V)} {ds : List (Key × D)} {i : Nat}, KD K H vs ds → (ds.map fun q => ofKey q.1)[i]? = (vs.map fun q => ofKey q.1)[i]?
  | [], [], _, _ => rfl
  | p :: _, q :: _, 0, h => by simp [h.1]
  | p :: _, q :: _, i + 1, h => by
    have := KD.keyAt (i := i) h.2.2
    simpa using this
  | [], _ :: _, _, h => h.elim
  | _ :: _, [], _, h => h.elim
theorem itOk_keys {K : PySem.W.Frag} {H : Hp} {a : Addr} {o : Obj} {vs : List (Key × V)} {kvs : List (Key × D)} (hf : H a = some (.frz o (.dK vs))) (l : KD K H vs kvs) (z : kvs.length ≤ sizeLine) : ItOk K H (Itk a o vs) (kvs.map fun q => ofKey q.1) fun M => M a = some (.rdk kvs) where
  small := by simpa using z
  go := fun i H1 M e _ _ hi => ⟨e.frz _ _ _ hf, by rw [l.length]; simpa using hi⟩
  stop := fun i H1 M e _ _ hi => ⟨e.frz _ _ _ hf, by rw [l.length]; simpa using hi⟩
  yld := fun i H1 M x H2 e _ _ y => by
    obtain ⟨rfl, k, v, ek, rfl⟩ := y
    refine ⟨.refl, fun _ h => h, fun d hd => ?_⟩
    rw [l.keyAt, List.getElem?_map, ek] at hd
    cases hd
    exact ofKey_rp k
theorem pid_keys {tg e : Expr} {te : DE} (he : PD X W e te) : PID X W tg e (dKeys te) := ⟨PIimp (pi_keys he.run) fun σ H R ⟨τ, M, Qd, Ed, hs, hr, q, we, k⟩ => ⟨τ, M, _, Ed, hs, hr, q, we, fun d M1 v H1 q1 e1 r1 h1 => by
  dsimp only at q1
  split at q1
  · rename_i a
    split at q1
    · rename_i kvs ea
      obtain ⟨o, vs, hf, l⟩ : ∃ o vs, H1 a = some (.frz o (.dK vs)) ∧ KD X.K H1 vs kvs := h1 a _ ea
      exact ⟨a, o, r1.toRef, .inl ⟨vs, hf, k _ _ _ M1 H1 q1.2 e1 h1 (itOk_keys hf l q1.1)⟩⟩
    · exact q1.elim
  · exact q1.elim⟩⟩
end
end DL

set_option maxHeartbeats 4000000
namespace DL
open PySem PySem.Spec L2
section
variable {X : Cx} {W : DW} {pos p : Pos}
/-! ### d.copy(), d.get(k, x), d[k] = v, len, list, sorted of a dict -/
def copyM : DM := fun d ds M Q => match dictOf d M, ds with
  | some kvs, [] => ∀ p, M p = none → Q (.ref p) (put M p (.dk kvs))
  | _, _ => False
theorem mt_copyM : MtR X "dict.copy" (liftM X.K copyM) := MtRimp DLdict.mt_copy fun x xs H Q ⟨d, ds, M, Qd, q, rx, rs, hr, k⟩ => by
  unfold copyM at q
  split at q
  · rename_i kvs ed
    obtain ⟨a, vs, rfl, rfl, _, hv, l⟩ := dictOf_ok rx hr ed
    exact ⟨a, vs, rfl, rs.nil_of, hv, fun p hp => k.dict hr l hp q⟩
  · exact q.elim
def dDGet2 (td ty tx : DE) : DE := fun τ M Q E => td τ M (fun x M1 => (dictRd x M1).isSome = true ∧ ty τ M1 (fun y M2 => tx τ M2 (fun z M3 => match dictRd x M3, keyD y with
  | some kvs, some k => Q ((valD kvs k).getD z) M3
  | _, _ => False) E) E) E
theorem isD_rd {K : PySem.W.Frag} {H : Hp} {M : Mp} {v : V} {d : D} (r : Rp K H v d) (hr : HR K H M) (h : (dictRd d M).isSome = true) : ∃ a, v = .ref a ∧ IsD H a := by
  obtain ⟨kvs, e⟩ := Option.isSome_iff_exists.mp h
  obtain ⟨a, vs, rfl, _, hv, _⟩ := dictRd_ok r hr e
  exact ⟨a, rfl, .inl ⟨vs, hv⟩⟩
theorem pd_dget2 {o e f : Expr} {td ty tx : DE} {apos cpos : Pos} (hu : X.A.units + 1 < cLine) (ho : PD X W o td) (he : PD X W e ty) (hf : PD X W f tx) (m : M2 X o "get" apos e f cpos) : PD X W (.Call (.Attribute o "get" apos) [e, f] [] cpos) (dDGet2 td ty tx) :=
  ⟨PEimp (pe_dget2 hu ho.run he.run hf.run m) fun σ H Q ⟨τ, M, Qd, Ed, hs, hr, q, we, kk⟩ => ⟨τ, M, _, Ed, hs, hr, q, we, fun x M1 xv H1 q1 e1 r1 h1 => by
    obtain ⟨a, rfl, hd⟩ := isD_rd r1 h1 q1.1
    refine ⟨a, rfl, hd, τ, M1, _, Ed, hs.mono e1, h1, q1.2, we, fun y M2 yv H2 q2 e2 r2 h2 => ⟨τ, M2, _, Ed, hs.mono (e1.trans e2), h2, q2, we, fun z M3 zv H3 q3 e3 r3 h3 => ?_⟩⟩
    dsimp only at q3
    split at q3
    · rename_i kvs k ed ek
      obtain ⟨a', vs, ea, _, hv, l⟩ := dictRd_ok (r1.mono (e2.trans e3)) h3 ed
      cases ea
      refine ⟨valV vs k, .inl ⟨vs, k, hv, keyD_ok (r2.mono e3) ek, rfl⟩, ?_⟩
      have e03 := (e1.trans e2).trans e3
      cases c : valD kvs k with
      | none =>
        rw [c] at q3
        have : valV vs k = none := by
          have := l.got (k := k)
          rw [c] at this
          simpa using this
        rw [this]
        exact kk _ M3 _ H3 q3 e03 r3 h3
      | some w =>
        rw [c] at q3
        obtain ⟨u, hu, ru⟩ := l.get _ c
        rw [hu]
        exact kk _ M3 _ H3 q3 e03 ru h3
    · exact q3.elim⟩⟩
/-- d[k] = v -/
def dGSubD (to ti : DE) : DGt := fun v τ M Q => to τ M (fun o M1 => ti τ M1 (fun i M2 => match o with
  | .ref a => match M2 a, keyD i with
    | some (.dk kvs), some k => kvs.length < sizeLine ∧ Q τ (put M2 a (.dk (putKD kvs k v)))
    | _, _ => False
  | _ => False) fun _ _ => False) fun _ _ => False
theorem pgd_subD {o i : Expr} {to ti : DE} (hu : X.A.units + 1 < cLine) (ho : PD X W o to) (hi : PD X W i ti)
    (ha : ∀ v, assign (.Subscript o i pos) X.env v = (do
      let ov ← holding [v] (eval o X.env)
      let iv ← holding [v, ov] (eval i X.env)
      standAt pos
      holding [v, ov, iv] (setItem ov iv v)
      release [v, ov, iv] []) := by intro _; rfl) : PGD X W.h0 (.Subscript o i pos) (dGSubD to ti) :=
  ⟨PGimp (pg_sub ho.run hi.run (set_dict hu) ha) fun v σ H Q ⟨d, τ, M, Qd, r, hs, hr, q, k⟩ => ⟨τ, M, _, _, hs, hr, q, fun _ _ z => z.elim, fun od M1 ov H1 q1 e1 r1 h1 =>
    ⟨τ, M1, _, _, hs.mono e1, h1, q1, fun _ _ z => z.elim, fun id M2 iv H2 q2 e2 r2 h2 => by
      dsimp only at q2
      split at q2
      · rename_i a
        split at q2
        · rename_i kvs kx ea ek
          obtain ⟨vs, hv, l⟩ := h2.dk ea
          have l2 := l.put (k := kx) (r.mono (e1.trans e2))
          obtain ⟨e3, h3⟩ := HR.dictAt h2 hv l2
          refine ⟨a, _, (r1.mono e2).toRef, .inl ⟨vs, kx, hv, keyD_ok r2 ek, by rw [l.length]; exact q2.1, rfl⟩, ?_⟩
          exact k τ _ σ _ q2.2 (e1.trans (e2.trans e3)) (hs.mono (e1.trans (e2.trans e3))) h3
        · exact q2.elim
      · exact q2.elim⟩⟩⟩
def lenDict : DG := fun ds M Q => match ds with
  | [d] => match dictOf d M with
    | some kvs => Q (.int ((kvs.length : Nat) : Int)) M
    | none => False
  | _ => False
theorem call_lenDict : CallR X (.builtin "len") (liftC X.K lenDict) := CallRimp call_lenD fun xs H Q ⟨ds, M, Qd, q, r, hr, k⟩ => by
  unfold lenDict at q
  split at q
  · obtain ⟨v, rfl, rv⟩ := r.one
    split at q
    · rename_i kvs ed
      obtain ⟨a, vs, rfl, rfl, _, hv, l⟩ := dictOf_ok rv hr ed
      refine ⟨a, vs, rfl, hv, ?_⟩
      rw [l.length]
      exact k _ M _ H q .refl (.int _) hr
    · exact q.elim
  · exact q.elim
theorem KD.keys {K : PySem.W.Frag} {H : Hp} : ∀ {vs : List (Key × V)} {ds : List (Key × D)}, KD K H vs ds → RpL K H (vs.map fun q => kV q.1) (ds.map fun q => ofKey q.1)
  | [], [], _ => .nil
  | p :: _, q :: _, h => .cons (by show Rp K H (kV p.1) (ofKey q.1); rw [h.1]; exact ofKey_rp _) (KD.keys h.2.2)
  | [], _ :: _, h => h.elim
  | _ :: _, [], h => h.elim
theorem KD.keysEq {K : PySem.W.Frag} {H : Hp} : ∀ {vs : List (Key × V)} {ds : List (Key × D)}, KD K H vs ds → vs.map (·.1) = ds.map (·.1)
  | [], [], _ => rfl
  | p :: _, q :: _, h => by rw [List.map_cons, List.map_cons, h.1, KD.keysEq h.2.2]
  | [], _ :: _, h => h.elim
  | _ :: _, [], h => h.elim
def lstDict : DG := fun ds M Q => match ds with
  | [d] => match dictRd d M with
    | some kvs => ∀ p, M p = none → Q (.ref p) (put M p (.lst (kvs.map fun q => ofKey q.1)))
    | none => False
  | _ => False
theorem call_lstDict (hc : X.calm = true) : CallR X (.type "list") (liftC X.K lstDict) := CallRimp (call_listD hc) fun xs H Q ⟨ds, M, Qd, q, r, hr, k⟩ => by
  unfold lstDict at q
  split at q
  · obtain ⟨v, rfl, rv⟩ := r.one
    split at q
    · rename_i kvs ed
      obtain ⟨a, vs, rfl, rfl, hv, l⟩ := dictRd_ok rv hr ed
      exact ⟨a, vs, rfl, hv, fun p hp => k.lst hr l.keys hp q⟩
    · exact q.elim
  · exact q.elim
/-- sorted(d), keys that are texts -/
def sortDictS : DG := fun ds M Q => match ds with
  | [d] => match dictRd d M with
    | some kvs => ∃ ks : List Str, kvs.map (·.1) = ks.map Sum.inr ∧ ks.length < 64 ∧ ∀ (ys : List Str) (p : Addr), ys.Perm ks → PyProof.Rows.sortedS ys = true → M p = none → Q (.ref p) (put M p (.lst (ys.map D.str)))
    | none => False
  | _ => False
theorem call_sortDictS (hc : X.calm = true) : CallR X (.builtin "sorted") (liftC X.K sortDictS) := CallRimp (call_sortedD hc) fun xs H Q ⟨ds, M, Qd, q, r, hr, k⟩ => by
  unfold sortDictS at q
  split at q
  · obtain ⟨v, rfl, rv⟩ := r.one
    split at q
    · rename_i kvs ed
      obtain ⟨a, vs, rfl, rfl, hv, l⟩ := dictRd_ok rv hr ed
      obtain ⟨ks, h1, h2, q⟩ := q
      exact ⟨a, vs, ks, rfl, hv, l.keysEq.trans h1, h2, fun ys p hy hs hp => k.lst hr (RpL.ofStrs (ns := ys)) hp fun p hp => q ys p hy hs hp⟩
    · exact q.elim
  · exact q.elim
/-- sorted(xs), a list of ints -/
def sortInts : DG := fun ds M Q => match ds with
  | [.ref a] => match (seqOf M a).bind intsOf with
    | some ns => ∀ (ns' : List Int) (p : Addr), ns'.Perm ns → ns'.Pairwise (· ≤ ·) → M p = none → Q (.ref p) (put M p (.lst (ns'.map D.int)))
    | none => False
  | _ => False
theorem call_sortInts : CallR X (.builtin "sorted") (liftC X.K sortInts) := CallRimp cr_sortedI fun xs H Q ⟨ds, M, Qd, q, r, hr, k⟩ => by
  unfold sortInts at q
  split at q
  · obtain ⟨v, rfl, rv⟩ := r.one
    split at q
    · rename_i ns e
      obtain ⟨zs, e1, e2⟩ := Option.bind_eq_some_iff.mp e
      obtain ⟨vs, s, l⟩ := seqOf_ok hr e1
      rw [intsOf_ok e2] at l
      rw [l.ints] at s
      exact ⟨_, ns, by rw [rv.toRef], s, fun ns' p hp hs hn => k.lst hr (RpL.ofInts (ns := ns')) hn fun p hp' => q ns' p hp hs hp'⟩
    · exact q.elim
  · exact q.elim
/-! ### texts -/
def strG : DG := fun ds M Q => match ds with
  | [.int i] => i.natAbs.log2 < 1920 ∧ Q (.str (toString i)) M
  | _ => False
theorem call_strG : CallR X (.type "str") (liftC X.K strG) := CallRimp call_str_int fun xs H Q ⟨ds, M, Qd, q, r, hr, k⟩ => by
  unfold strG at q
  split at q
  · obtain ⟨v, rfl, rv⟩ := r.one
    rw [rv.toInt]
    exact ⟨_, rfl, q.1, k _ M _ H q.2 .refl (.str _) hr⟩
  · exact q.elim
def strsOf : List D → Option (List Str)
  | [] => some []
  | .str i :: ds => (strsOf ds).map (i :: ·)
  | _ :: _ => none
theorem strsOf_map : ∀ ns : List Str, strsOf (ns.map D.str) = some ns
  | [] => rfl
  | n :: ns => by simp [strsOf, strsOf_map ns]
theorem strsOf_ok : ∀ {ds : List D} {ns : List Str}, strsOf ds = some ns → ds = ns.map D.str
  | [], ns, h => by cases h; rfl
  | d :: ds, ns, h => by
    cases d with
    | str b =>
      have h' : (strsOf ds).map (b :: ·) = some ns := h
      cases e : strsOf ds with
      | none => rw [e] at h'; cases h'
      | some cs => rw [e] at h'; cases h'; rw [strsOf_ok e]; rfl
    | _ => cases h
def joinM : DM := fun d ds M Q => match d, ds with
  | .str a, [y] => match (seqD y M).bind strsOf with
    | some ys => (ys.map (·.length)).sum + ys.length * a.length ≤ 16777216 ∧ Q (.str (Txt.join a ys)) M
    | none => False
  | _, _ => False
theorem mt_joinM : MtR X "str.join" (liftM X.K joinM) := MtRimp mt_join fun x xs H Q ⟨d, ds, M, Qd, q, rx, rs, hr, k⟩ => by
  unfold joinM at q
  split at q
  · rename_i a y
    obtain ⟨v, rfl, rv⟩ := rs.one
    split at q
    · rename_i ys e
      obtain ⟨zs, e1, e2⟩ := Option.bind_eq_some_iff.mp e
      obtain ⟨l, vs, rfl, s, r⟩ := seqD_ok rv hr e1
      rw [strsOf_ok e2] at r
      rw [r.strs] at s
      exact ⟨a, l, ys, rx.toStr, rfl, s, q.1, k _ M _ H q.2 .refl (.str _) hr⟩
    · exact q.elim
  · exact q.elim
/-- a sign in a text -/
def inSign (n : Bool) : DO := fun x y M Q => match x, y with
  | .str a, .str z => ∃ c : Nat, a = ⟨#[c]⟩ ∧ Q (.bl (n != decide (c ∈ z.cps.toList))) M
  | _, _ => False
theorem op_inSign : OpR X (compareOp .In) (liftO X.K (inSign false)) := OpRimp op_in_sign fun x y H Q ⟨dx, dy, M, Qd, q, a, b, c, k⟩ => by
  unfold inSign at q
  split at q
  · obtain ⟨ch, rfl, q⟩ := q
    exact ⟨ch, _, a.toStr, b.toStr, k _ M _ H (by simpa using q) .refl (.bl _) c⟩
  · exact q.elim
theorem op_notInSign : OpR X (compareOp .NotIn) (liftO X.K (inSign true)) := OpRimp op_notIn_sign fun x y H Q ⟨dx, dy, M, Qd, q, a, b, c, k⟩ => by
  unfold inSign at q
  split at q
  · obtain ⟨ch, rfl, q⟩ := q
    exact ⟨ch, _, a.toStr, b.toStr, k _ M _ H (by simpa using q) .refl (.bl _) c⟩
  · exact q.elim
/-! ### a dict of the module's own: is it there -/
/-- the dict at a of the module, with these keys -/
def inKD (K : PySem.W.Frag) (a : Addr) (n : Bool) : DO := fun x y M Q => match x, y with
  | .str z, .ref b => b = a ∧ ∃ r, PySem.W.nsIn K a z = some r ∧ Q (.bl (n != r.isSome)) M
  | _, _ => False
theorem op_inKD {a : Addr} {es : Array DictEntry} {m : Nat} (Dk : KDict X.K X.w a es m) : OpR X (compareOp .In) (liftO X.K (inKD X.K a false)) := OpRimp (op_in_kd Dk) fun x y H Q ⟨dx, dy, M, Qd, q, ra, rb, c, k⟩ => by
  unfold inKD at q
  split at q
  · obtain ⟨rfl, r, e, q⟩ := q
    exact ⟨_, r, ra.toStr, rb.toRef, e, k _ M _ H (by simpa using q) .refl (.bl _) c⟩
  · exact q.elim
end
end DL

set_option maxHeartbeats 4000000
namespace DL
open PySem PySem.Spec L2
theorem bt_sorted : bootBuiltins "sorted" = some (.builtin "sorted") := by decide +kernel
theorem bt_sum : bootBuiltins "sum" = some (.builtin "sum") := by decide +kernel
theorem u200 {k : Nat} {A : Around} (r : Room k A) : A.units + 200 < cLine := by have := r.un; omega
theorem u1 {k : Nat} {A : Around} (r : Room k A) : A.units + 1 < cLine := by have := r.un; omega
section
variable {X : Cx} {W : DW} {pos : Pos}
theorem ptd_din {o i : Expr} {ty td : DE} (hu : X.A.units + 1 < cLine) (hi : PD X W i ty) (ho : PD X W o td) (hm : behindInMarks .In o = false := by with_unfolding_all rfl) : PTD X W (.Compare i [.In] [o] pos) (dB (dDIn false ty td)) :=
  ⟨PTimp (pt_cmp (pc_din hu hi.run ho.run) hm) fun σ H Q h => by
    have := dDIn_read (Q := fun x H1 => ∃ k, x = .bl k ∧ Q k H1) (dB_lift h)
    simpa [tB, tDIn] using this⟩
theorem ptd_dnotin {o i : Expr} {ty td : DE} (hu : X.A.units + 1 < cLine) (hi : PD X W i ty) (ho : PD X W o td) (hm : behindInMarks .NotIn o = false := by with_unfolding_all rfl) : PTD X W (.Compare i [.NotIn] [o] pos) (dB (dDIn true ty td)) :=
  ⟨PTimp (pt_cmp (pc_dnotin hu hi.run ho.run) hm) fun σ H Q h => by
    have := dDIn_read (Q := fun x H1 => ∃ k, x = .bl k ∧ Q k H1) (dB_lift h)
    simpa [tB, tDNotIn] using this⟩
/-! ### {k: v, ..} -/
def dPairs : List (DE × DE) → Sl → Mp → (List (D × D) → Mp → Prop) → EK → Prop
  | [], _, M, Q, _ => Q [] M
  | (tk, tv) :: r, τ, M, Q, E => tk τ M (fun x M1 => tv τ M1 (fun y M2 => dPairs r τ M2 (fun ps M3 => Q ((x, y) :: ps) M3) E) E) E
def RpP (K : PySem.W.Frag) (H : Hp) : List (V × V) → List (D × D) → Prop
  | [], [] => True
  | p :: ps, q :: qs => Rp K H p.1 q.1 ∧ Rp K H p.2 q.2 ∧ RpP K H ps qs
  | _, _ => False
theorem dPairs_lift {τ : Sl} {σ : L2.St} {Ed : EK} (we : ∀ x M', Ed x M' → W.w x τ M') : ∀ (trs : List (DE × DE)) {H : Hp} {M : Mp} {Qd : List (D × D) → Mp → Prop} {Q : List (V × V) → Hp → Prop}, RS X.K W.h0 H σ τ → HR X.K H M → dPairs trs τ M Qd Ed →
    (∀ ds M' vs H', Qd ds M' → TExt X.K H H' → RpP X.K H' vs ds → HR X.K H' M' → Q vs H') → tPairs (trs.map fun p => (liftE X.K W p.1, liftE X.K W p.2)) σ H Q
  | [], H, M, Qd, Q, hs, hr, q, k => k [] M [] H q .refl True.intro hr
  | (tk, tv) :: r, H, M, Qd, Q, hs, hr, q, k => ⟨τ, M, _, Ed, hs, hr, q, we, fun x M1 xv H1 q1 e1 r1 h1 => ⟨τ, M1, _, Ed, hs.mono e1, h1, q1, we, fun y M2 yv H2 q2 e2 r2 h2 =>
      dPairs_lift we r (hs.mono (e1.trans e2)) h2 q2 fun ds M3 vs H3 q3 e3 r3 h3 => k _ M3 _ H3 q3 ((e1.trans e2).trans e3) ⟨r1.mono (e2.trans e3), r2.mono e3, r3⟩ h3⟩⟩
def keysD : List (D × D) → Option (List (Key × D))
  | [] => some []
  | (x, y) :: r => match keyD x, keysD r with
    | some k, some l => some ((k, y) :: l)
    | _, _ => none
theorem keysD_ok {K : PySem.W.Frag} {H : Hp} : ∀ {vs : List (V × V)} {ds : List (D × D)} {l : List (Key × D)}, RpP K H vs ds → keysD ds = some l → ∃ ws : List (Key × V), vs = ws.map (fun q => (kV q.1, q.2)) ∧ KD K H ws l
  | [], [], l, _, h => by cases h; exact ⟨[], rfl, True.intro⟩
  | p :: ps, (x, y) :: qs, l, r, h => by
    unfold keysD at h
    split at h
    · rename_i k l' ek el
      cases h
      obtain ⟨ws, e, kd⟩ := keysD_ok r.2.2 el
      refine ⟨(k, p.2) :: ws, ?_, rfl, r.2.1, kd⟩
      rw [List.map_cons, ← e, ← keyD_ok r.1 ek]
    · cases h
  | [], _ :: _, _, r, _ => r.elim
  | _ :: _, [], _, r, _ => r.elim
def dDisp (trs : List (DE × DE)) : DE := fun τ M Q E => ∀ p, M p = none → dPairs trs τ (put M p (.dk [])) (fun ps M2 => M2 p = some (.dk []) ∧ match keysD ps with
  | some l => l.length ≤ 15 ∧ Q (.ref p) (put M2 p (.dk (mergeKD [] l)))
  | none => False) E
structure PPD (X : Cx) (W : DW) (pos : Pos) (keys : List (Option Expr)) (values : List Expr) (trs : List (DE × DE)) : Prop where
  run : PPs X pos keys values (trs.map fun p => (liftE X.K W p.1, liftE X.K W p.2))
theorem ppd_nil : PPD X W pos [] [] [] := ⟨pps_nil⟩
theorem ppd_cons {k v : Expr} {ks : List (Option Expr)} {vs : List Expr} {tk tv : DE} {trs : List (DE × DE)} (hk : PD X W k tk) (hv : PD X W v tv) (hr : PPD X W pos ks vs trs) : PPD X W pos (some k :: ks) (v :: vs) ((tk, tv) :: trs) := ⟨pps_cons hk.run hv.run hr.run⟩
theorem pd_disp {keys : List (Option Expr)} {values : List Expr} {trs : List (DE × DE)} (h : PPD X W pos keys values trs) (hall : keys.all (·.isSome) = true := by rfl) (hl : keys.length = values.length := by rfl) (h0 : keys ≠ [] := by simp) (h15 : keys.length ≤ 15 := by decide) :
    PD X W (.Dict keys values pos) (dDisp trs) := ⟨PEimp (pe_disp h.run hall hl h0 h15) fun σ H Q ⟨τ, M, Qd, Ed, hs, hr, q, we, kk⟩ p hp => by
  have e0 : TExt X.K H (upd H p (.dK [])) := .new hp
  have h0 : HR X.K (upd H p (.dK [])) (put M p (.dk [])) := hr.made (noTup_none hp) ⟨[], upd_same, True.intro⟩
  refine dPairs_lift we trs (hs.mono e0) h0 (q p (hr.free hp)) fun ds M2 vs H2 q2 e2 r2 h2 => ?_
  obtain ⟨c1, q2⟩ := q2
  split at q2
  · rename_i l el
    obtain ⟨w0, hw0, l0⟩ := h2.dk c1
    have : w0 = [] := List.length_eq_zero_iff.mp l0.length
    subst this
    obtain ⟨ws, ev, kd⟩ := keysD_ok r2 el
    refine ⟨hw0, ws, ev, by rw [kd.length]; exact q2.1, ?_⟩
    have lm : KD X.K H2 (mergeK [] ws) (mergeKD [] l) := KD.merge kd True.intro
    obtain ⟨e3, h3⟩ := HR.dictAt h2 hw0 lm
    exact kk _ _ _ _ q2.2 ((e0.trans e2).trans e3) (.ref p) h3
  · exact q2.elim⟩
end
end DL

set_option maxHeartbeats 4000000
namespace DL
open PySem PySem.Spec L2
/-! ### what stands in a dict -/
theorem valD_cons {q : Key × D} {l : List (Key × D)} {k : Key} : valD (q :: l) k = if q.1 = k then some q.2 else valD l k := by
  by_cases c : q.1 = k <;> simp [valD, List.find?_cons, c]
theorem valD_nil {k : Key} : valD [] k = none := rfl
theorem valD_snoc {k j : Key} {d : D} : ∀ {l : List (Key × D)}, (l.any fun q => decide (q.1 = k)) = false → valD (l ++ [(k, d)]) j = if k = j then some d else valD l j
  | [], _ => by rw [List.nil_append, valD_cons]
  | q :: l, h => by
    rw [List.any_cons, Bool.or_eq_false_iff] at h
    have hq : ¬ q.1 = k := of_decide_eq_false h.1
    rw [List.cons_append, valD_cons, valD_cons, valD_snoc h.2]
    by_cases c : q.1 = j
    · rw [if_pos c, if_pos c]
      split
      · rename_i e; exact absurd (c.trans e.symm) hq
      · rfl
    · rw [if_neg c, if_neg c]
theorem over_no {k : Key} {d : D} : ∀ {l : List (Key × D)}, (l.any fun q => decide (q.1 = k)) = false → (l.map fun q => if q.1 = k then (q.1, d) else q) = l
  | [], _ => rfl
  | q :: l, h => by
    rw [List.any_cons, Bool.or_eq_false_iff] at h
    rw [List.map_cons, if_neg (of_decide_eq_false h.1), over_no h.2]
theorem valD_over {k j : Key} {d : D} : ∀ {l : List (Key × D)}, (l.any fun q => decide (q.1 = k)) = true → valD (l.map fun q => if q.1 = k then (q.1, d) else q) j = if k = j then some d else valD l j
  | [], h => by cases h
  | q :: l, h => by
    rw [List.map_cons, valD_cons, valD_cons]
    by_cases c : q.1 = k
    · rw [if_pos c]
      by_cases e : q.1 = j
      · rw [if_pos e, if_pos (c.symm.trans e)]
      · rw [if_neg e, if_neg e, if_neg (fun z => e (c.trans z))]
        by_cases a : (l.any fun q => decide (q.1 = k)) = true
        · rw [valD_over a, if_neg (fun z => e (c.trans z))]
        · rw [over_no (Bool.eq_false_iff.mpr a)]
    · rw [if_neg c]
      have a : (l.any fun q => decide (q.1 = k)) = true := by
        rw [List.any_cons, Bool.or_eq_true] at h
        exact h.resolve_left (by simpa using c)
      rw [valD_over a]
      by_cases e : q.1 = j
      · rw [if_pos e]
        split
        · rename_i z; exact absurd (e.trans z.symm) c
        · rfl
      · rw [if_neg e, if_neg e]
theorem valD_put {l : List (Key × D)} {k j : Key} {d : D} : valD (putKD l k d) j = if k = j then some d else valD l j := by
  unfold putKD
  split
  · rename_i h; exact valD_over h
  · rename_i h; exact valD_snoc (Bool.eq_false_iff.mpr h)
def keysOk (l : List (Key × D)) : Prop := (l.map (·.1)).Nodup
theorem keysOk_nil : keysOk [] := List.nodup_nil
theorem keysOk_put {l : List (Key × D)} {k : Key} {d : D} (h : keysOk l) : keysOk (putKD l k d) := by
  unfold keysOk putKD at *
  split
  · have : (l.map fun q => if q.1 = k then (q.1, d) else q).map (·.1) = l.map (·.1) := by
      rw [List.map_map]
      refine List.map_congr_left fun q _ => ?_
      show (if q.1 = k then (q.1, d) else q).1 = q.1
      split <;> rfl
    rw [this]; exact h
  · rename_i c
    rw [List.map_append, List.nodup_append]
    refine ⟨h, by simp, fun x hx y hy e => ?_⟩
    simp at hy
    subst hy
    obtain ⟨q, hq, rfl⟩ := List.mem_map.mp hx
    exact c (List.any_eq_true.mpr ⟨q, hq, by simpa using e⟩)
theorem mergeKD_app : ∀ {more acc : List (Key × D)}, keysOk (acc ++ more) → mergeKD acc more = acc ++ more
  | [], acc, _ => by simp [mergeKD]
  | q :: more, acc, h => by
    have hno : (acc.any fun p => decide (p.1 = q.1)) = false := by
      rw [Bool.eq_false_iff]
      intro z
      obtain ⟨p, hp, e⟩ := List.any_eq_true.mp z
      unfold keysOk at h
      rw [List.map_append, List.nodup_append] at h
      exact h.2.2 p.1 (List.mem_map.mpr ⟨p, hp, rfl⟩) q.1 (by simp) (of_decide_eq_true e)
    have e1 : mergeKD acc (q :: more) = mergeKD (putKD acc q.1 q.2) more := rfl
    have e2 : putKD acc q.1 q.2 = acc ++ [q] := by unfold putKD; rw [hno]; simp
    rw [e1, e2, mergeKD_app (by simpa [keysOk] using h)]
    simp
theorem mergeKD_nil {l : List (Key × D)} (h : keysOk l) : mergeKD [] l = l := by
  rw [mergeKD_app (by simpa using h)]
  rfl
theorem putKD_length {l : List (Key × D)} {k : Key} {d : D} : (putKD l k d).length ≤ l.length + 1 := by
  unfold putKD
  split <;> simp
end DL

set_option maxHeartbeats 4000000
namespace DL
open PySem PySem.Spec L2
/-! ### the draws' state, as every law has it -/
/-- everything but S stays -/
def Ext (S : Addr → Prop) (M M' : Mp) : Prop := ∀ a o, ¬ S a → M a = some o → M' a = some o
abbrev Is (s : Addr) : Addr → Prop := fun a => a = s
/-- the draws' state at s, the script's ints at l -/
def PSt (M : Mp) (s l : Addr) (ns : List Int) : Prop := s ≠ l ∧ M l = some (.lst (ns.map D.int)) ∧ ∃ seed pos rest : Int, M s = some (.lst [.int seed, .ref l, .int pos, .int rest]) ∧ 0 ≤ seed ∧ seed < 2147483647 ∧ 0 ≤ pos ∧ pos ≤ ns.length ∧ 0 ≤ rest
def spPick : DSp := fun ds M Q _ => ∃ (s l : Addr) (ns : List Int) (limit : Int), ds = [.ref s, .int limit] ∧ PSt M s l ns ∧ 0 < limit ∧ limit.natAbs.log2 < 9000 ∧
  ∀ (r : Int) (o : MO), 0 ≤ r → r < limit → PSt (put M s o) s l ns → Q (.int r) (put M s o)
def spStart1 : DSp := fun ds M Q _ => ∃ (a : Addr) (ns : List Int), ds = [.ref a] ∧ M a = some (.rol (ns.map D.int)) ∧ ns.length ≤ 100000 ∧ ∀ s l M', PSt M' s l ns → Sub M M' → Q (.ref s) M'
def spStart2 (K : PySem.W.Frag) : DSp := fun ds M Q _ => ∃ (a : Addr) (ns : List Int), ds = [.ref a] ∧ KL K a ns ∧ ns.length ≤ 100000 ∧ ∀ s l M', PSt M' s l ns → Sub M M' → Q (.ref s) M'
def spStart (K : PySem.W.Frag) : DSp := fun ds M Q _ => ∃ (a : Addr) (ns : List Int), ds = [.ref a] ∧ (M a = some (.rol (ns.map D.int)) ∨ KL K a ns) ∧ ns.length ≤ 100000 ∧ ∀ s l M', PSt M' s l ns → Sub M M' → Q (.ref s) M'
def okS : Nat → D → Prop
  | n, .tup xs => ∃ m, n = m + 1 ∧ xs.length ≤ 100000 ∧ ∀ x, x ∈ xs → okS m x
  | _, .ref _ => False
  | _, .ty _ => False
  | _, d => ok d = true
def spSame : Nat → DSp
  | 0 => fun _ _ _ _ => False
  | n + 1 => fun ds M Q _ => ∃ d, ds = [d, d] ∧ okS n d ∧ Q (.bl true) M
/-- .. and whatever flags -/
def spSameB : Nat → DSp
  | 0 => fun _ _ _ _ => False
  | n + 1 => fun ds M Q _ => ∃ d, ds = [d, d] ∧ okS n d ∧ Q (.bl true) M
section
variable {S S' : Addr → Prop} {M0 M M' M1 M2 : Mp} {s l p q : Addr} {ns : List Int} {Q : DK} {E : EK} {o u : MO}
theorem seq_split {t u : DS} {Dn : DN} {τ : Sl} {M : Mp} (R : Sl → Mp → Prop) (h2 : ∀ τ M, R τ M → u Dn τ M) (h1 : ∀ nx : Sl → Mp → Prop, (∀ τ M, R τ M → nx τ M) → t { Dn with nx := nx } τ M) : dSeq t u Dn τ M := h1 _ h2
theorem Ext.refl : Ext S M M := fun _ _ _ h => h
theorem Ext.trans (a : Ext S M M1) (b : Ext S M1 M2) : Ext S M M2 := fun p o n h => b p o n (a p o n h)
theorem Ext.wide (a : Ext S M M1) (h : ∀ x, S x → S' x) : Ext S' M M1 := fun p o n => a p o fun z => n (h p z)
theorem Ext.one (a : Ext (Is s) M M1) (h : S s) : Ext S M M1 := a.wide fun x e => by rw [e]; exact h
theorem Ext.lay (hp : M p = none) : Ext S M (DL.put M p o) := fun a u n h => by
  rw [put_ne]
  · exact h
  · rintro rfl; rw [h] at hp; cases hp
theorem Ext.set (hp : S p) : Ext S M (DL.put M p o) := fun a u n h => by
  rw [put_ne]
  · exact h
  · rintro rfl; exact n hp
theorem Ext.sub (h : Sub M M') : Ext S M M' := fun a o _ e => h a o e
theorem PSt.mk {seed pos rest : Int} (n : s ≠ l) (h : M l = some (.lst (ns.map D.int))) (h1 : 0 ≤ seed) (h2 : seed < 2147483647) (h3 : 0 ≤ pos) (h4 : pos ≤ ns.length) (h5 : 0 ≤ rest) : PSt (DL.put M s (.lst [.int seed, .ref l, .int pos, .int rest])) s l ns :=
  ⟨n, (put_ne (Ne.symm n)).trans h, seed, pos, rest, put_same, h1, h2, h3, h4, h5⟩
theorem PSt.s_some (h : PSt M s l ns) (hp : M p = none) : p ≠ s ∧ p ≠ l := by
  obtain ⟨_, hl, _, _, _, hs, _⟩ := h
  refine ⟨fun e => ?_, fun e => ?_⟩
  · subst e; rw [hs] at hp; cases hp
  · subst e; rw [hl] at hp; cases hp
theorem PSt.put (h : PSt M s l ns) (n1 : p ≠ s) (n2 : p ≠ l) : PSt (DL.put M p o) s l ns := by
  obtain ⟨n, hl, a, b, c, hs, r⟩ := h
  exact ⟨n, (put_ne (Ne.symm n2)).trans hl, a, b, c, (put_ne (Ne.symm n1)).trans hs, r⟩
theorem PSt.new (h : PSt M s l ns) (hp : M p = none) : PSt (DL.put M p o) s l ns := h.put (h.s_some hp).1 (h.s_some hp).2
/-- from M0 on the draws' state was kept, everything but S stayed -/
structure LS (S : Addr → Prop) (M0 M : Mp) (s l : Addr) (ns : List Int) : Prop where
  P : PSt M s l ns
  X : Ext S M0 M
  S : S s
theorem LS.zero (P : PSt M s l ns) (h : S s) : LS S M M s l ns := ⟨P, .refl, h⟩
theorem LS.new (J : LS S M0 M s l ns) (hp : M p = none) : LS S M0 (DL.put M p o) s l ns := ⟨J.P.new hp, J.X.trans (.lay hp), J.S⟩
theorem LS.at_ (J : LS S M0 M s l ns) (h : M0 p = some o) (n : ¬ S p) : M p = some o := J.X _ _ n h
/-- a thing of one's own -/
structure Own (S : Addr → Prop) (M0 M : Mp) (s l p : Addr) (o : MO) : Prop where
  a : M p = some o
  z : M0 p = none ∨ S p
  ns : p ≠ s
  nl : p ≠ l
theorem LS.zeroA (J : LS S M0 M s l ns) (hp : M p = none) : M0 p = none ∨ S p := by
  by_cases h : S p
  · exact .inr h
  · refine .inl ?_
    cases e : M0 p with
    | none => rfl
    | some o => rw [J.X p o h e] at hp; cases hp
theorem Own.new (J : LS S M0 M s l ns) (hp : M p = none) : Own S M0 (DL.put M p o) s l p o := ⟨put_same, J.zeroA hp, (J.P.s_some hp).1, (J.P.s_some hp).2⟩
theorem LS.set (J : LS S M0 M s l ns) (h : Own S M0 M s l p u) : LS S M0 (DL.put M p o) s l ns := ⟨J.P.put h.ns h.nl, fun a v n e => by
  have := J.X a v n e
  rw [put_ne]
  · exact this
  · rintro rfl
    rcases h.z with z | z
    · rw [z] at e; cases e
    · exact n z, J.S⟩
theorem Own.set (h : Own S M0 M s l p u) : Own S M0 (DL.put M p o) s l p o := ⟨put_same, h.z, h.ns, h.nl⟩
theorem Own.ext (h : Own S M0 M s l p o) (e : Ext (Is s) M M') : Own S M0 M' s l p o := ⟨e _ _ h.ns h.a, h.z, h.ns, h.nl⟩
theorem Own.extS (h : Own S M0 M s l p o) {S2 : Addr → Prop} (n : ¬ S2 p) (e : Ext S2 M M') : Own S M0 M' s l p o := ⟨e _ _ n h.a, h.z, h.ns, h.nl⟩
theorem Own.put (h : Own S M0 M s l p o) (n : q ≠ p) : Own S M0 (DL.put M q u) s l p o := ⟨(put_ne (Ne.symm n)).trans h.a, h.z, h.ns, h.nl⟩
theorem Own.ne (h : Own S M0 M s l p o) (hq : M q = none) : q ≠ p := by rintro rfl; rw [h.a] at hq; cases hq
theorem Own.lay (h : Own S M0 M s l p o) (hq : M q = none) : Own S M0 (DL.put M q u) s l p o := h.put (h.ne hq)
theorem LS.pick (J : LS S M0 M s l ns) {limit : Int} (h0 : 0 < limit) (hl : limit.natAbs.log2 < 9000) (k : ∀ (r : Int) (M' : Mp), 0 ≤ r → r < limit → LS S M0 M' s l ns → Ext (Is s) M M' → Q (.int r) M') : spPick [.ref s, .int limit] M Q E :=
  ⟨s, l, ns, limit, rfl, J.P, h0, hl, fun r o h1 h2 h3 => by
    have e : Ext (Is s) M (DL.put M s o) := .set rfl
    exact k r _ h1 h2 ⟨h3, J.X.trans (e.one J.S), J.S⟩ e⟩
theorem log_small {i : Int} (h : i.natAbs < 2 ^ 40) : i.natAbs.log2 < 9000 := by
  by_cases e : i.natAbs = 0
  · rw [e]; decide
  · have := (Nat.log2_lt e).mpr h
    omega
theorem atI_in {xs : List D} {i : Int} (h0 : 0 ≤ i) (h1 : i < xs.length) : ∃ d, atI xs i = some d ∧ d ∈ xs ∧ xs[i.toNat]? = some d := by
  have h2 : i.toNat < xs.length := by omega
  refine ⟨xs[i.toNat], ?_, List.getElem_mem h2, by simp [h2]⟩
  unfold atI
  rw [ixN_in h0 h1]
  simp [h2]
/-- one out of a list -/
theorem LS.pickAt (J : LS S M0 M s l ns) {a : Addr} {vs : List D} (ha : M a = some (.lst vs)) (hn : a ≠ s) {n : Int} (e : n = vs.length) (h0 : 0 < vs.length) (h1 : vs.length < 1000000)
    (k : ∀ (v : D) (M' : Mp), v ∈ vs → LS S M0 M' s l ns → Ext (Is s) M M' → Q v M') : spPick [.ref s, .int n] M (fun y M2 => ixG (.ref a) y M2 Q) E := by
  subst e
  refine J.pick (by omega) (log_small (by omega)) fun r M' r0 r1 J' e => ?_
  have ha' := e _ _ hn ha
  obtain ⟨d, e1, e2, _⟩ := atI_in r0 r1
  have : ixG (.ref a) (.int r) M' Q = Q d M' := by
    unfold ixG
    simp only [seqOf, ha', Option.bind_some, e1]
  rw [this]
  exact k d M' e2 J' e
/-- one out of a written list -/
theorem LS.choose (J : LS S M0 M s l ns) {vs : List D} {n : Int} (hn : n = vs.length) (h0 : 0 < vs.length) (h1 : vs.length < 1000000) (k : ∀ (v : D) (M' : Mp), v ∈ vs → LS S M0 M' s l ns → Ext (Is s) M M' → Q v M') :
    ∀ p, M p = none → spPick [.ref s, .int n] (DL.put M p (.lst vs)) (fun y M2 => ixG (.ref p) y M2 Q) E := fun p hp =>
  (J.new hp).pickAt put_same (J.P.s_some hp).1 hn h0 h1 fun v M' hv J' e => k v M' hv J' (Ext.trans (.lay hp) e)
/-- one sign of a text -/
theorem LS.pickS (J : LS S M0 M s l ns) {z : Str} {n : Int} (h0 : 0 < n) (h1 : n ≤ z.length) (h2 : z.length < 1000000)
    (k : ∀ (c : Nat) (M' : Mp), c ∈ z.cps.toList → LS S M0 M' s l ns → Ext (Is s) M M' → Q (.str ⟨#[c]⟩) M') : spPick [.ref s, .int n] M (fun y M2 => ixG (.str z) y M2 Q) E := by
  refine J.pick (by omega) (log_small (by omega)) fun r M' r0 r1 J' e => ?_
  have hz : z.length = z.cps.toList.length := by simp [Str.length]
  have r2 : r.toNat < z.cps.toList.length := by omega
  have e1 : atI z.cps.toList r = some (z.cps.toList[r.toNat]) := by
    unfold atI
    rw [ixN_in r0 (by omega)]
    exact List.getElem?_eq_getElem r2
  have : ixG (.str z) (.int r) M' Q = (z.length ≤ sizeLine ∧ Q (.str ⟨#[z.cps.toList[r.toNat]]⟩) M') := by
    unfold ixG
    simp only [e1]
  rw [this]
  exact ⟨by rw [sizeLine_eq]; omega, k _ M' (List.getElem_mem r2) J' e⟩
end
end DL

set_option maxHeartbeats 4000000
namespace DL
open PySem PySem.Spec L2
/-- texts that are written -/
theorem ofS_inj {a b : String} : Str.ofString a = Str.ofString b ↔ a = b := by
  constructor
  · intro h
    rw [Str.ofString_eq_toList, Str.ofString_eq_toList] at h
    have h1 : (a.toList.map Char.toNat).toArray = (b.toList.map Char.toNat).toArray := congrArg Str.cps h
    have h2 : a.toList.map Char.toNat = b.toList.map Char.toNat := by simpa using h1
    have h3 : a.toList = b.toList := (List.map_inj_right (fun x y e => Char.ext (UInt32.toNat_inj.mp e))).mp h2
    exact String.toList_inj.mp h3
  · rintro rfl; rfl
/-! ### texts and tuples in readings -/
section
variable {M : Mp} {Q : DK} {a b : Str} {d e f : D} {ds : List D} {n : Bool} {p : Addr}
theorem eqD_str : eqD (.str a) (.str b) M Q = Q (.bl (decide (a = b))) M := by unfold eqD eqG; simp
theorem neD_str : neD (.str a) (.str b) M Q = Q (.bl (!decide (a = b))) M := by unfold neD eqG; simp
theorem ixG_nat {xs : List D} {k : Nat} (h : xs[k]? = some d) : ixG (.tup xs) (.int ((k : Nat) : Int)) M Q = Q d M := by
  unfold ixG
  simp only [atI_nat h]
theorem ixG_t0 : ixG (.tup (d :: ds)) (.int 0) M Q = Q d M := ixG_nat (k := 0) rfl
theorem ixG_t1 : ixG (.tup (d :: e :: ds)) (.int 1) M Q = Q e M := ixG_nat (k := 1) rfl
theorem ixG_t2 : ixG (.tup (d :: e :: f :: ds)) (.int 2) M Q = Q f M := ixG_nat (k := 2) rfl
theorem ixG_last : ixG (.tup (ds ++ [d])) (.int (-1)) M Q = Q d M := by
  have : atI (ds ++ [d]) (-1) = some d := by
    unfold atI ixN
    have e0 : (ds ++ [d]).length = ds.length + 1 := by simp
    rw [e0, if_neg (by omega), if_pos (by omega)]
    have e : (((ds.length + 1 : Nat) : Int) + (-1)).toNat = ds.length := by omega
    have e' : ((-1 : Int) + ((ds.length + 1 : Nat) : Int)).toNat = ds.length := by omega
    first
      | (rw [e]; simp)
      | (rw [e']; simp)
  simp [ixG, this]
theorem any_strs {hs : List Str} {x : Str} : ((hs.map D.str).any fun d => eqb d (.str x)) = decide (x ∈ hs) := by
  induction hs with
  | nil => simp
  | cons h hs ih =>
    simp only [List.map_cons, List.any_cons, ih, eqb, List.mem_cons]
    by_cases c : x = h
    · subst c; simp
    · have : (h == x) = false := by
        rw [Bool.eq_false_iff]
        intro z
        exact c (eq_of_beq z).symm
      simp [this, c]
theorem flat_strs {hs : List Str} : (hs.map D.str).all flatD = true := by
  induction hs with
  | nil => rfl
  | cons h hs ih => simp [flatD]
theorem inG_strs {hs : List Str} {x : Str} {a : Addr} (h : M a = some (.lst (hs.map D.str))) : inG n (.str x) (.ref a) M Q = Q (.bl (n != decide (x ∈ hs))) M := by
  unfold inG
  simp only [seqD, seqOf, h, flat_strs, any_strs, flatD, true_and]
theorem inG_lit {hs : List Str} {x : Str} (hd : ds = hs.map D.str) : inG n (.str x) (.ref p) (put M p (.lst ds)) Q = Q (.bl (n != decide (x ∈ hs))) (put M p (.lst ds)) := inG_strs (by rw [put_same, hd])
theorem isiG_str {K : PySem.W.Frag} : isiG K [.str a, .ty "str"] M Q = Q (.bl true) M := by simp [isiG, tyName, isB]
theorem lenG_tup : lenG [.tup ds] M Q = Q (.int (ds.length : Nat)) M := by simp [lenG, lenD]
theorem lenG_at {a : Addr} {xs : List D} (h : M a = some (.lst xs)) : lenG [.ref a] M Q = Q (.int (xs.length : Nat)) M := by simp [lenG, lenD, h]
theorem cut_from {xs : List D} {i : Nat} (h : i ≤ xs.length) : cutD xs (some (i : Int)) none = xs.drop i := by
  unfold cutD HT.sIx
  dsimp only
  rw [if_neg (by omega), Int.toNat_natCast, Nat.min_eq_left h, List.take_of_length_le (by rw [List.length_drop]; omega)]
theorem cut_to {xs : List D} {i : Nat} : cutD xs none (some (i : Int)) = xs.take i := by
  unfold cutD HT.sIx
  dsimp only
  rw [if_neg (by omega), Int.toNat_natCast]
  simp only [Nat.sub_zero, List.drop_zero]
  rw [List.take_eq_take_iff]
  omega
theorem cut_in {xs : List D} {i j : Nat} (h : i ≤ xs.length) : cutD xs (some (i : Int)) (some (j : Int)) = (xs.take j).drop i := by
  unfold cutD HT.sIx
  dsimp only
  rw [if_neg (by omega), if_neg (by omega), Int.toNat_natCast, Int.toNat_natCast, Nat.min_eq_left h, List.drop_take, List.take_eq_take_iff, List.length_drop]
  omega
/-- xs[2:-1] -/
theorem cut_2m {x y z : D} : cutD (x :: y :: (ds ++ [z])) (some 2) (some (-1)) = ds := by
  have e0 : (x :: y :: (ds ++ [z])).length = ds.length + 3 := by simp
  unfold cutD HT.sIx
  dsimp only
  rw [e0, if_pos (show (-1 : Int) < 0 by omega), if_neg (show ¬ (2 : Int) < 0 by omega)]
  have e1 : min (Int.toNat 2) (ds.length + 3) = 2 := by have : Int.toNat 2 = 2 := rfl; omega
  rw [e1]
  show List.take _ (ds ++ [z]) = ds
  have : ∀ k, k = ds.length → List.take k (ds ++ [z]) = ds := by rintro k rfl; simp
  exact this _ (by omega)
theorem isi_int {K : PySem.W.Frag} {M : Mp} {Q : DK} {i : Int} : isiG K [.int i, .ty "int"] M Q = Q (.bl true) M := by simp [isiG, tyName, isB]
theorem isi_int_s {K : PySem.W.Frag} {M : Mp} {Q : DK} {i : Int} : isiG K [.int i, .ty "str"] M Q = Q (.bl false) M := by simp [isiG, tyName, isB]
theorem isi_int_t {K : PySem.W.Frag} {M : Mp} {Q : DK} {i : Int} : isiG K [.int i, .ty "tuple"] M Q = Q (.bl false) M := by simp [isiG, tyName, isB]
theorem isi_tup {K : PySem.W.Frag} {M : Mp} {Q : DK} {i : List D} : isiG K [.tup i, .ty "tuple"] M Q = Q (.bl true) M := by simp [isiG, tyName, isB]
theorem isi_tup_s {K : PySem.W.Frag} {M : Mp} {Q : DK} {i : List D} : isiG K [.tup i, .ty "str"] M Q = Q (.bl false) M := by simp [isiG, tyName, isB]
theorem isi_tup_i {K : PySem.W.Frag} {M : Mp} {Q : DK} {i : List D} : isiG K [.tup i, .ty "int"] M Q = Q (.bl false) M := by simp [isiG, tyName, isB]
theorem isi_str_i {K : PySem.W.Frag} {M : Mp} {Q : DK} {i : Str} : isiG K [.str i, .ty "int"] M Q = Q (.bl false) M := by simp [isiG, tyName, isB]
theorem isi_str_t {K : PySem.W.Frag} {M : Mp} {Q : DK} {i : Str} : isiG K [.str i, .ty "tuple"] M Q = Q (.bl false) M := by simp [isiG, tyName, isB]
end
end DL

set_option maxHeartbeats 4000000
namespace DL
open PySem PySem.Spec L2
theorem LS.pickAtW {S : Addr → Prop} {M0 M : Mp} {s l : Addr} {ns : List Int} {Q : DK} {E : EK} (J : LS S M0 M s l ns) {a : Addr} {vs : List D} (ha : M a = some (.lst vs)) (hn : a ≠ s) {n : Int} (e : n = vs.length) (h0 : 0 < vs.length) (h1 : vs.length ≤ 16777216)
    (k : ∀ (v : D) (M' : Mp), v ∈ vs → LS S M0 M' s l ns → Ext (Is s) M M' → Q v M') : spPick [.ref s, .int n] M (fun y M2 => ixG (.ref a) y M2 Q) E := by
  subst e
  refine J.pick (by omega) (log_small (by omega)) fun r M' r0 r1 J' e => ?_
  have ha' := e _ _ hn ha
  obtain ⟨d, e1, e2, _⟩ := atI_in r0 r1
  have : ixG (.ref a) (.int r) M' Q = Q d M' := by
    unfold ixG
    simp only [seqOf, ha', Option.bind_some, e1]
  rw [this]
  exact k d M' e2 J' e
theorem LS.chooseP {S : Addr → Prop} {M0 M : Mp} {s l : Addr} {ns : List Int} (J : LS S M0 M s l ns) {vs : List D} {n : Int} {Q : Addr → DK} {E : Addr → EK} (hn : n = vs.length) (h0 : 0 < vs.length) (h1 : vs.length < 1000000) (k : ∀ (p : Addr) (v : D) (M' : Mp), v ∈ vs → LS S M0 M' s l ns → Ext (Is s) M M' → Q p v M') :
    ∀ p, M p = none → spPick [.ref s, .int n] (DL.put M p (.lst vs)) (fun y M2 => ixG (.ref p) y M2 (Q p)) (E p) := fun p hp =>
  (J.new hp).pickAt put_same (J.P.s_some hp).1 hn h0 h1 fun v M' hv J' e => k p v M' hv J' (Ext.trans (.lay hp) e)
/-! ### a comprehension whose items are drawn -/
theorem dCL_draws {α : Type} (f : α → D) (G : α → Prop) {g : D → Sl → Sl} {te : DE} {kp : Mp → Prop} {p : Addr} {τ : Sl} {F : Mp → Prop} {its : List D} {S : Addr → Prop} {M0 M : Mp} {s l : Addr} {ns : List Int}
    (J : LS S M0 M s l ns) (hp : Own S M0 M s l p (.lst [])) (hl : its.length ≤ 1000000) (hk : ∀ M', LS S M0 M' s l ns → Ext (fun a => a = s ∨ a = p) M M' → kp M')
    (step : ∀ (i : Nat) (d : D) (M' : Mp) (k : D → Mp → Prop), its[i]? = some d → LS S M0 M' s l ns → Ext (fun a => a = s ∨ a = p) M M' → (∀ a M2, G a → LS S M0 M2 s l ns → Ext (Is s) M' M2 → k (f a) M2) → te (g d τ) M' k noE)
    (done : ∀ (xs : List α) (M' : Mp), xs.length = its.length → (∀ a, a ∈ xs → G a) → LS S M0 M' s l ns → Ext (fun a => a = s ∨ a = p) M M' → Own S M0 M' s l p (.lst (xs.map f)) → F M') :
    dCL g dYes te kp p τ F its M := by
  refine dCL_inv (fun j M' => LS S M0 M' s l ns ∧ Ext (fun a => a = s ∨ a = p) M M' ∧ ∃ xs : List α, xs.length = j ∧ (∀ a, a ∈ xs → G a) ∧ Own S M0 M' s l p (.lst (xs.map f))) ?_ ?_ ?_ ⟨J, .refl, [], rfl, (fun _ h => nomatch h), hp⟩
  · exact fun i M' _ h => hk M' h.1 h.2.1
  · rintro i d M' nxt hd ⟨J', e', xs, hx, hG, hO⟩ hnx
    simp only [dYes, if_true]
    refine step i d M' _ hd J' e' fun a M2 ga J2 e2 => ?_
    have hO2 := hO.ext e2
    have hi := (List.getElem?_eq_some_iff.mp hd).1
    simp only [hO2.a, List.length_map]
    refine ⟨by rw [sizeLine_eq]; omega, hnx _ ⟨J2.set hO2, (e'.trans (e2.wide fun x z => .inl z)).trans (.set (.inr rfl)), xs ++ [a], by simp [hx], fun b hb => ?_, ?_⟩⟩
    · rcases List.mem_append.mp hb with h | h
      · exact hG b h
      · rw [List.mem_singleton.mp h]; exact ga
    · rw [List.map_append]
      exact hO2.set
  · rintro M' ⟨J', e', xs, hx, hG, hO⟩
    exact done xs M' hx hG J' e' hO
/-- a read-only walk: nothing is laid or drawn in the items -/
theorem dCL_pure {α : Type} (f : α → D) {g : D → Sl → Sl} {tt : DT} {te : DE} {kp : Mp → Prop} {p : Addr} {τ : Sl} {F : Mp → Prop} {its : List D} {M : Mp}
    (as : List (Option α)) (ha : as.length = its.length) (hl : its.length ≤ 16000000) (hk : ∀ xs, kp (put M p (.lst xs)))
    (step : ∀ (i : Nat) (d : D) (a : Option α) (xs : List D) (k : D → Mp → Prop) (k2 : Mp → Prop), its[i]? = some d → as[i]? = some a → (∀ x, a = some x → k (f x) (put M p (.lst xs))) → (a = none → k2 (put M p (.lst xs))) →
      tt (g d τ) (put M p (.lst xs)) (fun b M1 => if b = true then te (g d τ) M1 k noE else k2 M1) noE)
    (done : F (put M p (.lst ((as.filterMap id).map f)))) :
    dCL g tt te kp p τ F its (put M p (.lst [])) := by
  refine dCL_inv (fun j M' => M' = put M p (.lst (((as.take j).filterMap id).map f))) ?_ ?_ ?_ (by simp)
  · rintro i M' _ rfl; exact hk _
  · rintro i d M' nxt hd rfl hnx
    have hi := (List.getElem?_eq_some_iff.mp hd).1
    have hi2 : i < as.length := by omega
    refine step i d as[i] _ _ nxt hd (List.getElem?_eq_getElem hi2) (fun x hx => ?_) fun hx => ?_
    · simp only [put_same]
      refine ⟨?_, hnx _ ?_⟩
      · rw [sizeLine_eq, List.length_map]
        have h1 := List.length_filterMap_le id (as.take i)
        rw [List.length_take] at h1
        omega
      · rw [put_put, List.take_succ, List.getElem?_eq_getElem hi2, hx]
        simp
    · refine hnx _ ?_
      rw [List.take_succ, List.getElem?_eq_getElem hi2, hx]
      simp
  · rintro M' rfl
    rw [← ha, List.take_length]
    exact done
/-- a test whose answer is known -/
theorem ifS_of {c : DT} {t u : DS} {Dn : DN} {τ : Sl} {M : Mp} (b : Bool) (h : ∀ Q E, Q b M → c τ M Q E) (k : if b = true then t Dn τ M else u Dn τ M) : dIfS c t u Dn τ M := h _ _ k
theorem ifS_p {c : DT} {t u : DS} {Dn : DN} {τ : Sl} {M : Mp} (p : Prop) [Decidable p] (h : ∀ (Q : Bool → Mp → Prop) (E : EK), (p → Q true M) → (¬ p → Q false M) → c τ M Q E) (yes : p → t Dn τ M) (no : ¬ p → u Dn τ M) : dIfS c t u Dn τ M :=
  h (fun b M1 => if b = true then t Dn τ M1 else u Dn τ M1) _ (fun z => by show (if true = true then _ else _); rw [if_pos rfl]; exact yes z) fun z => by show (if false = true then _ else _); rw [if_neg Bool.false_ne_true]; exact no z
theorem lock_undo {M : Mp} {a p : Addr} {o u v : MO} (ha : M a = some o) (hp : put M a u p = none) : put (put (put M a u) p v) a o = put M p v := by
  have n : a ≠ p := by rintro rfl; rw [put_same] at hp; cases hp
  funext b
  by_cases c : b = a
  · subst c; rw [put_same, put_ne n, ha]
  · rw [put_ne c]
    by_cases c2 : b = p
    · subst c2; rw [put_same, put_same]
    · rw [put_ne c2, put_ne c2, put_ne c]
/-- a list out of the keys of a dict -/
theorem lock_comp {α : Type} (f : α → D) {i x j : Nat} {tt : DT} {te : DE} {τ : Sl} {M : Mp} {Dn : DN} {a : Addr} {kvs : List (Key × D)} (e : slot τ i = some (.ref a)) (ha : M a = some (.dk kvs)) (hl : kvs.length ≤ 1000000)
    (as : List (Option α)) (las : as.length = kvs.length)
    (step : ∀ (n : Nat) (q : Key × D) (o : Option α) (M' : Mp) (k : D → Mp → Prop) (k2 : Mp → Prop), kvs[n]? = some q → as[n]? = some o → M' a = some (.rdk kvs) → (∀ y, o = some y → k (f y) M') → (o = none → k2 M') →
      tt ((wipeD τ [x]).set x (some (ofKey q.1))) M' (fun b M1 => if b = true then te ((wipeD τ [x]).set x (some (ofKey q.1))) M1 k noE else k2 M1) noE)
    (nx : ∀ p, M p = none → Dn.nx (τ.set j (some (.ref p))) (put M p (.lst ((as.filterMap id).map f)))) :
    dLock (dAsg (dLc (dKeys (dVar i)) (fun d τ => τ.set x (some d)) tt te [x]) (dName j)) Dn τ M := by
  refine ⟨a, kvs, ha, ?_⟩
  simp only [dAsg, dLc, dKeys, dVar, e, put_same, dName, dLockN]
  refine ⟨by rw [sizeLine_eq]; omega, fun p hp => ?_⟩
  have n : a ≠ p := by rintro rfl; rw [put_same] at hp; cases hp
  refine dCL_pure f as (by rw [las, List.length_map]) (by rw [List.length_map]; omega) (fun xs => by rw [put_ne n, put_same]) (fun m d o xs k k2 hd ho h1 h2 => ?_) ?_
  · rw [List.getElem?_map] at hd
    cases hq : kvs[m]? with
    | none => rw [hq] at hd; cases hd
    | some q =>
      rw [hq] at hd
      cases hd
      exact step m q o _ k k2 hq ho (by rw [put_ne n, put_same]) h1 h2
  · refine ⟨by rw [put_ne n, put_same], ?_⟩
    rw [lock_undo ha hp]
    refine nx p ?_
    rw [put_ne (Ne.symm n)] at hp
    exact hp
theorem putKD_mem {l : List (Key × D)} {k : Key} {d : D} {q : Key × D} (h : q ∈ putKD l k d) : q = (k, d) ∨ q ∈ l := by
  unfold putKD at h
  split at h
  · obtain ⟨r, hr, rfl⟩ := List.mem_map.mp h
    split
    · rename_i c; left; rw [c]
    · exact .inr hr
  · rcases List.mem_append.mp h with h | h
    · exact .inr h
    · exact .inl (List.mem_singleton.mp h)
theorem putKD_ne {l : List (Key × D)} {k : Key} {d : D} : putKD l k d ≠ [] := by
  unfold putKD
  split
  · rename_i h
    cases l with
    | nil => simp at h
    | cons a r => simp
  · simp
theorem valD_mem {l : List (Key × D)} {q : Key × D} (h : q ∈ l) : ∃ v, valD l q.1 = some v ∧ (q.1, v) ∈ l := by
  induction l with
  | nil => cases h
  | cons r l ih =>
    rw [valD_cons]
    by_cases c : r.1 = q.1
    · exact ⟨r.2, by rw [if_pos c], by rw [← c]; exact List.mem_cons_self⟩
    · rw [if_neg c]
      rcases List.mem_cons.mp h with rfl | h
      · exact absurd rfl c
      · obtain ⟨v, h1, h2⟩ := ih h
        exact ⟨v, h1, List.mem_cons_of_mem _ h2⟩
end DL

set_option maxHeartbeats 4000000
namespace DL
open PySem PySem.Spec L2
/-! ### words of small letters -/
def low (x : Str) : Prop := ∀ c, c ∈ x.cps.toList → 97 ≤ c ∧ c ≤ 122
theorem app_cps {a b : Str} : (a ++ b).cps = a.cps ++ b.cps := rfl
theorem low_app {a b : Str} (ha : low a) (hb : low b) : low (a ++ b) := fun c hc => by
  rw [app_cps, Array.toList_append, List.mem_append] at hc
  exact hc.elim (ha c) (hb c)
theorem low_one {c : Nat} (h : 97 ≤ c ∧ c ≤ 122) : low ⟨#[c]⟩ := fun d hd => by
  have : d = c := by simpa using hd
  subst this; exact h
theorem low_nil : low "" := fun c hc => by
  have : ("" : Str).cps.toList = [] := by decide
  rw [this] at hc; cases hc
theorem low_joinS : ∀ {xs : List Str}, (∀ x, x ∈ xs → low x) → low (Str.join "" xs)
  | [], _ => low_nil
  | [x], h => h x List.mem_cons_self
  | x :: y :: r, h => low_app (low_app (h x List.mem_cons_self) low_nil) (low_joinS fun z hz => h z (List.mem_cons_of_mem _ hz))
theorem low_join {xs : List Str} (h : ∀ x, x ∈ xs → low x) : low (Txt.join "" xs) := by
  show low (Builtin.Str.glued (PySem.Str.ofString "") xs)
  rw [StrLaws.glued_eq_join]
  exact low_joinS h
theorem low_ok {x : Str} (h : low x) : ok (.str x) = true := by
  rw [ok, Array.all_eq_true]
  intro i hi
  have := h x.cps[i] (by simp)
  simp
  omega
theorem low_letters : low "abcdefghijklmnopqrstuvwxyz" := by unfold low; decide +kernel
theorem letters_len : ("abcdefghijklmnopqrstuvwxyz" : Str).cps.toList.length = 26 := by decide +kernel
theorem ixG_letter {i : Int} {M : Mp} {Q : DK} (h0 : 0 ≤ i) (h1 : i < 26) (k : ∀ x, low x → x.length = 1 → Q (.str x) M) : ixG (.str "abcdefghijklmnopqrstuvwxyz") (.int i) M Q := by
  have hl := letters_len
  have h2 : i.toNat < ("abcdefghijklmnopqrstuvwxyz" : Str).cps.toList.length := by omega
  have e1 : atI ("abcdefghijklmnopqrstuvwxyz" : Str).cps.toList i = some (("abcdefghijklmnopqrstuvwxyz" : Str).cps.toList[i.toNat]) := by
    unfold atI
    rw [ixN_in h0 (by omega)]
    exact List.getElem?_eq_getElem h2
  unfold ixG
  simp only [e1]
  refine ⟨?_, k _ (low_one (low_letters _ (List.getElem_mem h2))) rfl⟩
  have : ("abcdefghijklmnopqrstuvwxyz" : Str).length = 26 := by decide +kernel
  rw [this, sizeLine_eq]; omega
theorem LS.letter {S : Addr → Prop} {M0 M : Mp} {s l : Addr} {ns : List Int} {Q : DK} {E : EK} {n : Int} (J : LS S M0 M s l ns) (h0 : 0 < n) (h1 : n ≤ 26) (k : ∀ (x : Str) (M' : Mp), low x → x.length = 1 → LS S M0 M' s l ns → Ext (Is s) M M' → Q (.str x) M') :
    spPick [.ref s, .int n] M (fun y M2 => ixG (.str "abcdefghijklmnopqrstuvwxyz") y M2 Q) E :=
  J.pick h0 (log_small (by omega)) fun r M' r0 r1 J' e => ixG_letter r0 (by omega) fun x hx hl => k x M' hx hl J' e
end DL

set_option maxHeartbeats 4000000
namespace K06
open PySem PySem.Spec L2 DL
/-! ### data without flags and addresses: == is equality -/
mutual
def pureD : D → Bool
  | .non => true
  | .int _ => true
  | .str _ => true
  | .tup xs => pureL xs
  | .bl _ => false
  | .ref _ => false
  | .ty _ => false
def pureL : List D → Bool
  | [] => true
  | d :: ds => pureD d && pureL ds
end
mutual
theorem eqb_iff : ∀ (x y : D), pureD x = true → pureD y = true → (eqb x y = true ↔ x = y)
  | .non, y, h, k => by cases y <;> simp_all [eqb, pureD]
  | .int _, y, h, k => by cases y <;> simp_all [eqb, pureD]
  | .str _, y, h, k => by cases y <;> simp_all [eqb, pureD]
  | .bl _, y, h, k => by simp [pureD] at h
  | .ref _, y, h, k => by simp [pureD] at h
  | .ty _, y, h, k => by simp [pureD] at h
  | .tup xs, y, h, k => by
    cases y with
    | tup ys =>
      have q := eqbL_iff xs ys (by simpa [pureD] using h) (by simpa [pureD] using k)
      simp only [eqb, q, D.tup.injEq]
    | _ => simp_all [eqb, pureD]
theorem eqbL_iff : ∀ (x y : List D), pureL x = true → pureL y = true → (eqbL x y = true ↔ x = y)
  | [], [], _, _ => by simp [eqbL]
  | [], _ :: _, _, _ => by simp [eqbL]
  | _ :: _, [], _, _ => by simp [eqbL]
  | x :: xs, y :: ys, h, k => by
    simp only [pureL, Bool.and_eq_true] at h k
    simp only [eqbL, Bool.and_eq_true, List.cons.injEq, eqb_iff x y h.1 k.1, eqbL_iff xs ys h.2 k.2]
end
/-! ### expressions and sentences -/
/-- nd: head, a name (call, look), items, a table's row and last -/
inductive Ex where
  | w (x : Str)
  | n (i : Int)
  | nd (h : Str) (nm : Option Str) (xs : List Ex) (tl : Option (List Int × Int))
inductive Se where
  | is (a b : Ex)
  | cn (h : Str) (a b : Se)
  | bd (h : Str) (x : Str) (lim : Option Int) (s : Se)
def tlD : Option (List Int × Int) → List D
  | none => []
  | some (r, i) => [T r, .int i]
def nmD : Option Str → List D
  | none => []
  | some x => [.str x]
def limD : Option Int → List D
  | none => []
  | some i => [.int i]
mutual
def Ex.toD : Ex → D
  | .w x => .str x
  | .n i => .int i
  | .nd h nm xs tl => .tup (.str h :: (nmD nm ++ (Ex.toDs xs ++ tlD tl)))
def Ex.toDs : List Ex → List D
  | [] => []
  | e :: es => Ex.toD e :: Ex.toDs es
end
def Se.toD : Se → D
  | .is a b => .tup [.str "is", a.toD, b.toD]
  | .cn h a b => .tup [.str h, a.toD, b.toD]
  | .bd h x lim s => .tup (.str h :: .str x :: (limD lim ++ [s.toD]))
def oks (x : Str) : Prop := ok (.str x) = true
instance (x : Str) : Decidable (oks x) := inferInstanceAs (Decidable (_ = _))
def okw (x : Str) : Prop := oks x ∧ x.cps[0]? ≠ some 66
def bkinds : List Str := ["all", "some", "allbelow", "somebelow", "allrow", "somerow"]
mutual
/-- well formed, words as W says -/
def Ex.wf (W : Str → Prop) : Ex → Prop
  | .w x => W x
  | .n _ => True
  | .nd h nm xs tl => oks h ∧ (nm.isSome = true ↔ h = "call" ∨ h = "look") ∧ (∀ x, nm = some x → W x) ∧ (tl.isSome = true ↔ h = "table") ∧ (h = "table" → xs.length = 1) ∧ xs.length ≤ 3 ∧ (∀ r i, tl = some (r, i) → r.length ≤ 3) ∧ Ex.wfs W xs
def Ex.wfs (W : Str → Prop) : List Ex → Prop
  | [] => True
  | e :: es => e.wf W ∧ Ex.wfs W es
end
def Se.wf (W : Str → Prop) : Se → Prop
  | .is a b => a.wf W ∧ b.wf W ∧ dep a.toD ≤ 3 ∧ dep b.toD ≤ 3
  | .cn h a b => (h = "and" ∨ h = "if") ∧ a.wf W ∧ b.wf W
  | .bd h x lim s => h ∈ bkinds ∧ W x ∧ (lim.isSome = true ↔ h = "allbelow" ∨ h = "somebelow") ∧ s.wf W
theorem toDs_map : ∀ xs : List Ex, Ex.toDs xs = xs.map Ex.toD
  | [] => by simp [Ex.toDs]
  | x :: xs => by simp [Ex.toDs, toDs_map xs]
theorem pureT {r : List Int} : pureD (T r) = true := by
  unfold T pureD
  induction r with
  | nil => simp [pureL]
  | cons a l ih => simp [pureL, pureD] at ih ⊢; exact ih
theorem pureL_append : ∀ {xs ys : List D}, pureL (xs ++ ys) = (pureL xs && pureL ys)
  | [], ys => by simp [pureL]
  | x :: xs, ys => by simp [pureL, pureL_append (xs := xs), Bool.and_assoc]
mutual
theorem Ex.pure : ∀ e : Ex, pureD e.toD = true
  | .w x => by simp [Ex.toD, pureD]
  | .n i => by simp [Ex.toD, pureD]
  | .nd h nm xs tl => by
    have h1 : pureL (nmD nm) = true := by cases nm <;> simp [nmD, pureL, pureD]
    have h2 : pureL (tlD tl) = true := by
      cases tl with
      | none => simp [tlD, pureL]
      | some p => obtain ⟨r, i⟩ := p; simp [tlD, pureL, pureT, pureD]
    simp [Ex.toD, pureD, pureL, pureL_append, h1, h2, Ex.pures xs]
theorem Ex.pures : ∀ es : List Ex, pureL (Ex.toDs es) = true
  | [] => by simp [Ex.toDs, pureL]
  | e :: es => by simp [Ex.toDs, pureL, Ex.pure e, Ex.pures es]
end
theorem Se.pure : ∀ s : Se, pureD s.toD = true
  | .is a b => by simp [Se.toD, pureD, pureL, Ex.pure a, Ex.pure b]
  | .cn h a b => by simp [Se.toD, pureD, pureL, Se.pure a, Se.pure b]
  | .bd h x lim s => by
    have h1 : pureL (limD lim) = true := by cases lim <;> simp [limD, pureL, pureD]
    simp [Se.toD, pureD, pureL, pureL_append, h1, Se.pure s]
/-- the words of the binders put in -/
abbrev Env := Str → Str
mutual
def Ex.fill (env : Env) : Ex → Ex
  | .w x => .w (env x)
  | .n i => .n i
  | .nd h nm xs tl => .nd h (if h = "look" then nm.map env else nm) (Ex.fills env xs) tl
def Ex.fills (env : Env) : List Ex → List Ex
  | [] => []
  | e :: es => e.fill env :: Ex.fills env es
end
def bw (d : Nat) : Str := ("B" : Str) ++ toString (d : Int)
def Env.set (env : Env) (x y : Str) : Env := fun z => if z = x then y else env z
def Se.plain (env : Env) (d : Nat) : Se → Se
  | .is a b => .is (a.fill env) (b.fill env)
  | .cn h a b => .cn h (a.plain env d) (b.plain env d)
  | .bd h x lim s => .bd h (bw d) lim (s.plain (env.set x (bw d)) (d + 1))
theorem fills_map (env : Env) : ∀ xs : List Ex, Ex.fills env xs = xs.map (Ex.fill env)
  | [] => by simp [Ex.fills]
  | x :: xs => by simp [Ex.fills, fills_map env xs]
theorem toDs_length (xs : List Ex) : (Ex.toDs xs).length = xs.length := by rw [toDs_map, List.length_map]
/-- what a data tells of an expression it tells in one way -/
theorem nd_inj {nm nm' : Option Str} {xs xs' : List Ex} {tl tl' : Option (List Int × Int)} (n1 : nm.isSome = nm'.isSome) (t1 : tl.isSome = tl'.isSome) (q : nmD nm ++ (Ex.toDs xs ++ tlD tl) = nmD nm' ++ (Ex.toDs xs' ++ tlD tl')) : nm = nm' ∧ Ex.toDs xs = Ex.toDs xs' ∧ tl = tl' := by
  have a : nm = nm' ∧ Ex.toDs xs ++ tlD tl = Ex.toDs xs' ++ tlD tl' := by
    cases nm <;> cases nm' <;> simp_all [nmD]
  refine ⟨a.1, ?_⟩
  have b := a.2
  cases tl with
  | none =>
    cases tl' with
    | none => exact ⟨by simpa [tlD] using b, rfl⟩
    | some _ => cases t1
  | some p =>
    cases tl' with
    | none => cases t1
    | some p' =>
      obtain ⟨r, i⟩ := p
      obtain ⟨r', i'⟩ := p'
      have hl := congrArg List.length b
      simp only [List.length_append, tlD, List.length_cons, List.length_nil] at hl
      obtain ⟨c1, c2⟩ := List.append_inj b (by omega)
      simp only [tlD, List.cons.injEq, D.int.injEq, T_inj, and_true] at c2
      exact ⟨c1, by rw [c2.1, c2.2]⟩
section
variable {W W' : Str → Prop}
mutual
theorem Ex.inj : ∀ (a b : Ex), a.wf W → b.wf W → a.toD = b.toD → a = b
  | .w x, b, _, _, e => by cases b <;> simp_all [Ex.toD]
  | .n x, b, _, _, e => by cases b <;> simp_all [Ex.toD]
  | .nd h nm xs tl, b, wa, wb, e => by
    cases b with
    | w y => simp [Ex.toD] at e
    | n y => simp [Ex.toD] at e
    | nd h' nm' xs' tl' =>
      simp only [Ex.toD, D.tup.injEq, List.cons.injEq, D.str.injEq] at e
      obtain ⟨rfl, q⟩ := e
      simp only [Ex.wf] at wa wb
      have n1 : nm.isSome = nm'.isSome := by rw [Bool.eq_iff_iff, wa.2.1, wb.2.1]
      have t1 : tl.isSome = tl'.isSome := by rw [Bool.eq_iff_iff, wa.2.2.2.1, wb.2.2.2.1]
      obtain ⟨c1, c2, c3⟩ := nd_inj n1 t1 q
      rw [c1, c3, Ex.injs xs xs' wa.2.2.2.2.2.2.2 wb.2.2.2.2.2.2.2 c2]
theorem Ex.injs : ∀ (a b : List Ex), Ex.wfs W a → Ex.wfs W b → Ex.toDs a = Ex.toDs b → a = b
  | [], [], _, _, _ => rfl
  | [], _ :: _, _, _, e => by simp [Ex.toDs] at e
  | _ :: _, [], _, _, e => by simp [Ex.toDs] at e
  | a :: as, b :: bs, wa, wb, e => by
    simp only [Ex.wfs] at wa wb
    simp only [Ex.toDs, List.cons.injEq] at e
    rw [Ex.inj a b wa.1 wb.1 e.1, Ex.injs as bs wa.2 wb.2 e.2]
end
theorem bk_ne {h : Str} (hk : h ∈ bkinds) : h ≠ "is" ∧ h ≠ "and" ∧ h ≠ "if" := by
  simp only [bkinds, List.mem_cons, List.not_mem_nil, or_false] at hk
  rcases hk with rfl | rfl | rfl | rfl | rfl | rfl <;> decide
theorem cn_ne {h : Str} (hk : h = "and" ∨ h = "if") : h ≠ "is" := by
  rcases hk with rfl | rfl <;> decide
theorem Se.inj : ∀ (a b : Se), a.wf W → b.wf W → a.toD = b.toD → a = b
  | .is x y, b, wa, wb, e => by
    cases b with
    | is x' y' =>
      simp only [Se.wf] at wa wb
      simp only [Se.toD, D.tup.injEq, List.cons.injEq, true_and, and_true] at e
      rw [Ex.inj x x' wa.1 wb.1 e.1, Ex.inj y y' wa.2.1 wb.2.1 e.2]
    | cn h x' y' =>
      simp only [Se.toD, D.tup.injEq, List.cons.injEq, D.str.injEq] at e
      exact absurd e.1.symm (cn_ne wb.1)
    | bd h x' lim s =>
      simp only [Se.toD, D.tup.injEq, List.cons.injEq, D.str.injEq] at e
      exact absurd e.1.symm (bk_ne wb.1).1
  | .cn h x y, b, wa, wb, e => by
    cases b with
    | is x' y' =>
      simp only [Se.toD, D.tup.injEq, List.cons.injEq, D.str.injEq] at e
      exact absurd e.1 (cn_ne wa.1)
    | cn h' x' y' =>
      simp only [Se.wf] at wa wb
      simp only [Se.toD, D.tup.injEq, List.cons.injEq, D.str.injEq, and_true] at e
      rw [e.1, Se.inj x x' wa.2.1 wb.2.1 e.2.1, Se.inj y y' wa.2.2 wb.2.2 e.2.2]
    | bd h' x' lim s =>
      simp only [Se.toD, D.tup.injEq, List.cons.injEq, D.str.injEq] at e
      obtain ⟨rfl, _⟩ := e
      rcases wa.1 with z | z
      · exact absurd z (bk_ne wb.1).2.1
      · exact absurd z (bk_ne wb.1).2.2
  | .bd h x lim s, b, wa, wb, e => by
    cases b with
    | is x' y' =>
      simp only [Se.toD, D.tup.injEq, List.cons.injEq, D.str.injEq] at e
      exact absurd e.1 (bk_ne wa.1).1
    | cn h' x' y' =>
      simp only [Se.toD, D.tup.injEq, List.cons.injEq, D.str.injEq] at e
      obtain ⟨rfl, _⟩ := e
      rcases wb.1 with z | z
      · exact absurd z (bk_ne wa.1).2.1
      · exact absurd z (bk_ne wa.1).2.2
    | bd h' x' lim' s' =>
      simp only [Se.wf] at wa wb
      simp only [Se.toD, D.tup.injEq, List.cons.injEq, D.str.injEq] at e
      obtain ⟨rfl, rfl, e⟩ := e
      have n1 : lim.isSome = lim'.isSome := by rw [Bool.eq_iff_iff, wa.2.2.1, wb.2.2.1]
      have : lim = lim' ∧ s.toD = s'.toD := by
        cases lim <;> cases lim' <;> simp_all [limD]
      rw [this.1, Se.inj s s' wa.2.2.2 wb.2.2.2 this.2]
end
end K06

set_option maxHeartbeats 4000000
namespace K06
open PySem PySem.Spec L2 DL
/-! ### sizes -/
mutual
def szD : D → Nat
  | .tup xs => szL xs + 1
  | .non => 1
  | .bl _ => 1
  | .int _ => 1
  | .str _ => 1
  | .ref _ => 1
  | .ty _ => 1
def szL : List D → Nat
  | [] => 0
  | d :: ds => szD d + szL ds
end
theorem szD_pos (d : D) : 1 ≤ szD d := by cases d <;> simp [szD]
theorem szL_app : ∀ {xs ys : List D}, szL (xs ++ ys) = szL xs + szL ys
  | [], ys => by simp [szL]
  | x :: xs, ys => by simp [szL, szL_app (xs := xs)]; omega
theorem len_szL : ∀ xs : List D, xs.length ≤ szL xs
  | [] => by simp [szL]
  | x :: xs => by have := len_szL xs; have := szD_pos x; simp [szL]; omega
theorem szL_mem : ∀ {xs : List D} {d : D}, d ∈ xs → szD d ≤ szL xs
  | x :: xs, d, h => by
    rcases List.mem_cons.mp h with rfl | h
    · simp [szL]
    · have := szL_mem h; simp [szL]; omega
theorem depL_app : ∀ {xs ys : List D}, depL (xs ++ ys) = max (depL xs) (depL ys)
  | [], ys => by simp [depL]
  | x :: xs, ys => by simp [depL, depL_app (xs := xs), Nat.max_assoc]
theorem depL_mem : ∀ {xs : List D} {d : D}, d ∈ xs → dep d ≤ depL xs
  | x :: xs, d, h => by
    rcases List.mem_cons.mp h with rfl | h
    · rw [depL]; exact Nat.le_max_left _ _
    · have := depL_mem h; simp [depL]; omega
theorem okL_app : ∀ {xs ys : List D}, okL (xs ++ ys) = (okL xs && okL ys)
  | [], ys => by simp [okL]
  | x :: xs, ys => by simp [okL, okL_app (xs := xs), Bool.and_assoc]
theorem ok_T {r : List Int} : ok (T r) = true := by unfold T; rw [ok]; exact okL_ints
theorem dep_T {r : List Int} : dep (T r) = 1 := by unfold T; rw [dep, depL_ints]
theorem szL_ints : ∀ {r : List Int}, szL (r.map D.int) = r.length
  | [] => rfl
  | a :: r => by simp [szL, szD, szL_ints (r := r)]; omega
theorem szD_T {r : List Int} : szD (T r) = r.length + 1 := by unfold T; rw [szD, szL_ints]
/-! ### well formed data -/
variable {W W' : Str → Prop}
theorem okL_cons {d : D} {ds : List D} : okL (d :: ds) = (DL.ok d && okL ds) := by rw [okL]
theorem ok_tup {ds : List D} : DL.ok (.tup ds) = okL ds := by rw [DL.ok]
theorem ok_int {i : Int} : DL.ok (.int i) = true := by rw [DL.ok]
mutual
theorem Ex.ok (hW : ∀ x, W x → oks x) : ∀ e : Ex, e.wf W → DL.ok e.toD = true
  | .w x, h => by rw [Ex.toD]; exact hW x h
  | .n i, h => by rw [Ex.toD, ok_int]
  | .nd h nm xs tl, q => by
    simp only [Ex.wf] at q
    have h0 : DL.ok (.str h) = true := q.1
    have h1 : okL (nmD nm) = true := by
      cases nm with
      | none => simp [nmD, okL]
      | some x =>
        have : DL.ok (.str x) = true := hW x (q.2.2.1 x rfl)
        rw [nmD, okL_cons, this]; rfl
    have h2 : okL (tlD tl) = true := by
      cases tl with
      | none => simp [tlD, okL]
      | some p => obtain ⟨r, i⟩ := p; rw [tlD, okL_cons, okL_cons, ok_T, ok_int]; rfl
    rw [Ex.toD, ok_tup, okL_cons, okL_app, okL_app, h0, h1, h2, Ex.oks hW xs q.2.2.2.2.2.2.2]
    rfl
theorem Ex.oks (hW : ∀ x, W x → oks x) : ∀ es : List Ex, Ex.wfs W es → okL (Ex.toDs es) = true
  | [], _ => by simp [Ex.toDs, okL]
  | e :: es, h => by
    simp only [Ex.wfs] at h
    rw [Ex.toDs, okL_cons, Ex.ok hW e h.1, Ex.oks hW es h.2]; rfl
end
theorem bk_oks {h : Str} (hk : h ∈ bkinds) : K06.oks h := by
  simp only [bkinds, List.mem_cons, List.not_mem_nil, or_false] at hk
  rcases hk with rfl | rfl | rfl | rfl | rfl | rfl <;> decide +kernel
theorem cn_oks {h : Str} (hk : h = "and" ∨ h = "if") : K06.oks h := by
  rcases hk with rfl | rfl <;> decide +kernel
theorem is_oks : K06.oks "is" := by decide +kernel
theorem Se.ok (hW : ∀ x, W x → oks x) : ∀ s : Se, s.wf W → DL.ok s.toD = true
  | .is a b, h => by
    simp only [Se.wf] at h
    have h0 : DL.ok (.str "is") = true := is_oks
    rw [Se.toD, ok_tup, okL_cons, okL_cons, okL_cons, h0, Ex.ok hW a h.1, Ex.ok hW b h.2.1]
    rfl
  | .cn k a b, h => by
    simp only [Se.wf] at h
    have h0 : DL.ok (.str k) = true := cn_oks h.1
    rw [Se.toD, ok_tup, okL_cons, okL_cons, okL_cons, h0, Se.ok hW a h.2.1, Se.ok hW b h.2.2]
    rfl
  | .bd k x lim s, h => by
    simp only [Se.wf] at h
    have h0 : DL.ok (.str k) = true := bk_oks h.1
    have h2 : DL.ok (.str x) = true := hW x h.2.1
    have h1 : okL (limD lim) = true := by cases lim <;> simp [limD, okL, DL.ok]
    rw [Se.toD, ok_tup, okL_cons, okL_cons, okL_app, okL_cons, h0, h1, h2, Se.ok hW s h.2.2.2]
    rfl
theorem eqb_of {x y : D} (h : pureD x = true) (k : pureD y = true) [Decidable (x = y)] : eqb x y = decide (x = y) := by
  rw [Bool.eq_iff_iff, eqb_iff x y h k, decide_eq_true_eq]
/-! ### words put in -/
mutual
theorem Ex.fill_dep (env : Env) : ∀ e : Ex, dep (e.fill env).toD = dep e.toD
  | .w x => by simp [Ex.fill, Ex.toD, dep]
  | .n x => by simp [Ex.fill, Ex.toD, dep]
  | .nd h nm xs tl => by
    have h1 : depL (nmD (if h = "look" then nm.map env else nm)) = depL (nmD nm) := by split <;> cases nm <;> simp [nmD, depL, dep]
    simp [Ex.fill, Ex.toD, dep, depL, depL_app, h1, Ex.fills_dep env xs]
theorem Ex.fills_dep (env : Env) : ∀ es : List Ex, depL (Ex.toDs (Ex.fills env es)) = depL (Ex.toDs es)
  | [] => by simp [Ex.fills, Ex.toDs]
  | e :: es => by simp [Ex.fills, Ex.toDs, depL, Ex.fill_dep env e, Ex.fills_dep env es]
end
mutual
theorem Ex.fill_sz (env : Env) : ∀ e : Ex, szD (e.fill env).toD = szD e.toD
  | .w x => by simp [Ex.fill, Ex.toD, szD]
  | .n x => by simp [Ex.fill, Ex.toD, szD]
  | .nd h nm xs tl => by
    have h1 : szL (nmD (if h = "look" then nm.map env else nm)) = szL (nmD nm) := by split <;> cases nm <;> simp [nmD, szL, szD]
    simp [Ex.fill, Ex.toD, szD, szL, szL_app, h1, Ex.fills_sz env xs]
theorem Ex.fills_sz (env : Env) : ∀ es : List Ex, szL (Ex.toDs (Ex.fills env es)) = szL (Ex.toDs es)
  | [] => by simp [Ex.fills, Ex.toDs]
  | e :: es => by simp [Ex.fills, Ex.toDs, szL, Ex.fill_sz env e, Ex.fills_sz env es]
end
theorem fills_length (env : Env) (xs : List Ex) : (Ex.fills env xs).length = xs.length := by rw [fills_map, List.length_map]
mutual
theorem Ex.fill_wf {env : Env} (he : ∀ x, W x → W' (env x)) (hs : ∀ x, W x → W' x) : ∀ e : Ex, e.wf W → (e.fill env).wf W'
  | .w x, h => by simp only [Ex.fill, Ex.wf] at *; exact he x h
  | .n x, h => by simp [Ex.fill, Ex.wf]
  | .nd h nm xs tl, q => by
    simp only [Ex.wf] at q
    simp only [Ex.fill, Ex.wf]
    refine ⟨q.1, ?_, fun x hx => ?_, q.2.2.2.1, fun e => by rw [fills_length]; exact q.2.2.2.2.1 e, by rw [fills_length]; exact q.2.2.2.2.2.1, q.2.2.2.2.2.2.1, Ex.fills_wf he hs xs q.2.2.2.2.2.2.2⟩
    · split <;> simp [← q.2.1]
    · split at hx
      · cases nm with
        | none => cases hx
        | some y => cases hx; exact he _ (q.2.2.1 y rfl)
      · exact hs _ (q.2.2.1 x hx)
theorem Ex.fills_wf {env : Env} (he : ∀ x, W x → W' (env x)) (hs : ∀ x, W x → W' x) : ∀ es : List Ex, Ex.wfs W es → Ex.wfs W' (Ex.fills env es)
  | [], _ => by simp [Ex.fills, Ex.wfs]
  | e :: es, h => by
    simp only [Ex.wfs] at h
    simp only [Ex.fills, Ex.wfs]
    exact ⟨Ex.fill_wf he hs e h.1, Ex.fills_wf he hs es h.2⟩
end
/-- binders within one another -/
def Se.ht : Se → Nat
  | .is _ _ => 1
  | .cn _ a b => max a.ht b.ht + 1
  | .bd _ _ _ s => s.ht + 1
theorem oks_bw : ∀ d, d < 64 → oks (bw d) := by unfold bw; decide +kernel
theorem bw_inj : ∀ d, d < 64 → ∀ e, e < 64 → bw d = bw e → d = e := by unfold bw; decide +kernel
theorem bw_B : ∀ d, d < 64 → (bw d).cps[0]? = some 66 := by unfold bw; decide +kernel
theorem okw_ne {x : Str} (h : okw x) {d : Nat} (hd : d < 64) : x ≠ bw d := by
  rintro rfl
  exact h.2 (bw_B d hd)
theorem Se.plain_wf : ∀ (s : Se) (env : Env) (d : Nat), s.wf okw → s.ht + d ≤ 64 → (∀ x, okw x → oks (env x)) → (s.plain env d).wf oks
  | .is a b, env, d, h, hd, he => by
    simp only [Se.wf, Se.plain] at *
    exact ⟨Ex.fill_wf he (fun x h => h.1) a h.1, Ex.fill_wf he (fun x h => h.1) b h.2.1, by rw [Ex.fill_dep]; exact h.2.2.1, by rw [Ex.fill_dep]; exact h.2.2.2⟩
  | .cn k a b, env, d, h, hd, he => by
    simp only [Se.wf, Se.plain, Se.ht] at *
    exact ⟨h.1, Se.plain_wf a env d h.2.1 (by omega) he, Se.plain_wf b env d h.2.2 (by omega) he⟩
  | .bd k x lim s, env, d, h, hd, he => by
    simp only [Se.wf, Se.plain, Se.ht] at *
    refine ⟨h.1, oks_bw d (by omega), h.2.2.1, Se.plain_wf s _ (d + 1) h.2.2.2 (by omega) fun y hy => ?_⟩
    unfold Env.set
    split
    · exact oks_bw d (by omega)
    · exact he y hy
/-! ### sizes of well formed data -/
theorem szL_le {B : Nat} : ∀ {xs : List Ex}, (∀ x, x ∈ xs → szD x.toD ≤ B) → szL (Ex.toDs xs) ≤ xs.length * B
  | [], _ => by simp [Ex.toDs, szL]
  | x :: xs, h => by
    have h1 := h x List.mem_cons_self
    have h2 := szL_le (B := B) (xs := xs) fun y hy => h y (List.mem_cons_of_mem _ hy)
    simp only [Ex.toDs, szL, List.length_cons, Nat.add_mul, Nat.one_mul]
    omega
theorem wfs_mem : ∀ {xs : List Ex}, Ex.wfs W xs ↔ ∀ x, x ∈ xs → x.wf W
  | [] => by simp [Ex.wfs]
  | x :: xs => by simp [Ex.wfs, wfs_mem (xs := xs)]
theorem toDs_mem {xs : List Ex} {x : Ex} (h : x ∈ xs) : x.toD ∈ Ex.toDs xs := by rw [toDs_map]; exact List.mem_map.mpr ⟨x, h, rfl⟩
theorem nd_dep {h : Str} {nm : Option Str} {xs : List Ex} {tl : Option (List Int × Int)} {x : Ex} (hx : x ∈ xs) : dep x.toD < dep (Ex.nd h nm xs tl).toD := by
  rw [Ex.toD, dep, depL, depL_app, depL_app]
  have := depL_mem (toDs_mem hx)
  omega
theorem one12 {m : Nat} : 1 ≤ 12 ^ m := Nat.one_le_pow _ _ (by decide)
theorem Ex.sz_le : ∀ (m : Nat) (e : Ex), dep e.toD ≤ m → e.wf W → szD e.toD ≤ 12 ^ (m + 1)
  | m, .w x, _, _ => by simp [Ex.toD, szD]; exact one12
  | m, .n x, _, _ => by simp [Ex.toD, szD]; exact one12
  | 0, .nd h nm xs tl, hd, _ => by simp [Ex.toD, dep] at hd
  | m + 1, .nd h nm xs tl, hd, wf => by
    simp only [Ex.wf] at wf
    have hz : szL (Ex.toDs xs) ≤ xs.length * 12 ^ (m + 1) := szL_le fun x hx => Ex.sz_le m x (by have := nd_dep (h := h) (nm := nm) (tl := tl) hx; omega) (wfs_mem.mp wf.2.2.2.2.2.2.2 x hx)
    have h3 : xs.length * 12 ^ (m + 1) ≤ 3 * 12 ^ (m + 1) := Nat.mul_le_mul_right _ wf.2.2.2.2.2.1
    have h1 : szL (nmD nm) ≤ 1 := by cases nm <;> simp [nmD, szL, szD]
    have h2 : szL (tlD tl) ≤ 5 := by
      cases tl with
      | none => simp [tlD, szL]
      | some p => obtain ⟨r, i⟩ := p; have := wf.2.2.2.2.2.2.1 r i rfl; simp only [tlD, szL, szD_T, szD]; omega
    have h4 : 1 ≤ 12 ^ (m + 1) := one12
    have h5 : 12 ^ (m + 1 + 1) = 12 * 12 ^ (m + 1) := by rw [Nat.pow_succ, Nat.mul_comm]
    rw [Ex.toD, szD, szL, szL_app, szL_app, szD]
    omega
theorem Ex.sz3 {e : Ex} (h : e.wf W) (d : dep e.toD ≤ 3) : szD e.toD ≤ 20736 := Ex.sz_le 3 e d h
theorem Se.dep_le : ∀ s : Se, s.wf W → dep s.toD ≤ s.ht + 3
  | .is a b, h => by
    simp only [Se.wf] at h
    simp only [Se.toD, dep, depL, Se.ht]
    omega
  | .cn k a b, h => by
    simp only [Se.wf] at h
    have := Se.dep_le a h.2.1
    have := Se.dep_le b h.2.2
    simp only [Se.toD, dep, depL, Se.ht]
    omega
  | .bd k x lim s, h => by
    simp only [Se.wf] at h
    have := Se.dep_le s h.2.2.2
    have h1 : depL (limD lim) = 0 := by cases lim <;> simp [limD, depL, dep]
    simp only [Se.toD, dep, depL, depL_app, h1, Se.ht]
    omega
end K06

set_option maxHeartbeats 4000000
namespace K06
open PySem PySem.Spec L2 DL
/-! ### leaves and what stands there -/
mutual
def leavesD : D → List (List Int)
  | .tup xs => leavesL 0 xs
  | .non => [[]]
  | .bl _ => [[]]
  | .int _ => [[]]
  | .str _ => [[]]
  | .ref _ => [[]]
  | .ty _ => [[]]
def leavesL (k : Nat) : List D → List (List Int)
  | [] => []
  | d :: ds => (leavesD d).map (((k : Nat) : Int) :: ·) ++ leavesL (k + 1) ds
end
def atD : D → List Int → Option D
  | d, [] => some d
  | .tup xs, i :: q => match xs[i.toNat]? with | some d => atD d q | none => none
  | _, _ :: _ => none
def putD : D → List Int → D → Option D
  | _, [], v => some v
  | .tup xs, i :: q, v => match xs[i.toNat]? with | some d => (putD d q v).map fun d' => .tup (xs.set i.toNat d') | none => none
  | _, _ :: _, _ => none
/-- indices that are right -/
def pathOk : D → List Int → Prop
  | _, [] => True
  | .tup xs, i :: q => 0 ≤ i ∧ i < xs.length ∧ match xs[i.toNat]? with | some d => pathOk d q | none => False
  | _, _ :: _ => False
mutual
theorem leaves_sz : ∀ d : D, (leavesD d).length ≤ szD d
  | .tup xs => by have := leavesL_sz xs 0; simp only [leavesD, szD]; omega
  | .non => by simp [leavesD, szD]
  | .bl _ => by simp [leavesD, szD]
  | .int _ => by simp [leavesD, szD]
  | .str _ => by simp [leavesD, szD]
  | .ref _ => by simp [leavesD, szD]
  | .ty _ => by simp [leavesD, szD]
theorem leavesL_sz : ∀ (ds : List D) (k : Nat), (leavesL k ds).length ≤ szL ds
  | [], k => by simp [leavesL]
  | d :: ds, k => by
    have := leaves_sz d
    have := leavesL_sz ds (k + 1)
    simp only [leavesL, szL, List.length_append, List.length_map]
    omega
end
theorem leavesL_mem : ∀ {ds : List D} {k : Nat} {q : List Int}, q ∈ leavesL k ds → ∃ i r, i < ds.length ∧ q = ((k + i : Nat) : Int) :: r ∧ ∃ d, ds[i]? = some d ∧ r ∈ leavesD d
  | d :: ds, k, q, h => by
    rw [leavesL, List.mem_append] at h
    rcases h with h | h
    · obtain ⟨r, hr, rfl⟩ := List.mem_map.mp h
      exact ⟨0, r, by simp, rfl, d, rfl, hr⟩
    · obtain ⟨i, r, hi, rfl, d', e, hr⟩ := leavesL_mem h
      refine ⟨i + 1, r, by simpa using hi, by congr 1; omega, d', by simpa using e, hr⟩
/-- a leaf of a tuple -/
theorem leaf_tup {xs : List D} {q : List Int} (h : q ∈ leavesD (.tup xs)) : ∃ (i : Nat) (r : List Int) (d : D), q = (i : Int) :: r ∧ i < xs.length ∧ xs[i]? = some d ∧ r ∈ leavesD d := by
  rw [leavesD] at h
  obtain ⟨i, r, hi, rfl, d, e, hr⟩ := leavesL_mem h
  exact ⟨i, r, d, by rw [Nat.zero_add], hi, e, hr⟩
theorem at_tup {xs : List D} {i : Nat} {r : List Int} {d : D} (h : xs[i]? = some d) : atD (.tup xs) ((i : Int) :: r) = atD d r := by
  rw [atD, Int.toNat_natCast, h]
theorem put_tup {xs : List D} {i : Nat} {r : List Int} {d v : D} (h : xs[i]? = some d) : putD (.tup xs) ((i : Int) :: r) v = (putD d r v).map fun d' => .tup (xs.set i d') := by
  rw [putD, Int.toNat_natCast, h]
def isTup : D → Prop
  | .tup _ => True
  | _ => False
def groups : List (List Str) := [["plus", "minus", "times", "div", "rem", "least", "greatest", "same", "below"], ["and", "if"], ["all", "some", "allrow", "somerow"], ["allbelow", "somebelow"]]
def kin (h h' : Str) : Prop := h' = h ∨ ∃ g, g ∈ groups ∧ h ∈ g ∧ h' ∈ g
/-- what a leaf may become -/
def okCh (i : Int) (v v' : D) : Prop := match v with
  | .int _ => ∃ j, v' = .int j
  | .str h => (0 < i ∧ ∃ x, v' = .str x ∧ okw x) ∨ (i ≤ 0 ∧ ∃ h', v' = .str h' ∧ kin h h')
  | _ => False
end K06

set_option maxHeartbeats 4000000
namespace K06
open PySem PySem.Spec L2 DL
/-! ### the text by places -/
def top (i : Nat) : Stmt := PySem.Challenge.pw_proofchoosers_k06_sentences_alike.main.body.getD i (.Pass ⟨0, 0, 0, 0⟩)
/-- the addresses of the classes -/
structure Adr where
  (BOUND_KINDS : Addr)
/-- what the written part says of the names -/
structure Txt (w : World) (K : PySem.W.Frag) (mg : Str → Option Value) (A : Adr) : Prop where
  n_all : mg "all" = none
  n_bool : mg "bool" = none
  n_int : mg "int" = none
  n_isinstance : mg "isinstance" = none
  n_len : mg "len" = none
  n_list : mg "list" = none
  n_max : mg "max" = none
  n_min : mg "min" = none
  n_range : mg "range" = none
  n_sorted : mg "sorted" = none
  n_str : mg "str" = none
  n_tuple : mg "tuple" = none
  k_BOUND_KINDS : mg "BOUND_KINDS" = some (.ref A.BOUND_KINDS)
  in_BOUND_KINDS : ∀ {X : Cx}, X.K = K → X.w = w → OpR X (compareOp .In) (liftO X.K (inKD X.K A.BOUND_KINDS false))
abbrev s_items_start : Stmt := top 1
abbrev N_items_start : List Str := ["expression"]
abbrev P_items_start : List Str := ["expression"]
theorem sc_items_start : FnScope N_items_start P_items_start (defScope s_items_start) := C8.fnScope_by (by decide +kernel)
abbrev s_inner_end : Stmt := top 2
abbrev N_inner_end : List Str := ["expression"]
abbrev P_inner_end : List Str := ["expression"]
theorem sc_inner_end : FnScope N_inner_end P_inner_end (defScope s_inner_end) := C8.fnScope_by (by decide +kernel)
abbrev s_same_words : Stmt := top 5
abbrev N_same_words : List Str := ["first", "second", "ones", "others"]
abbrev P_same_words : List Str := ["first", "second", "ones", "others"]
theorem sc_same_words : FnScope N_same_words P_same_words (defScope s_same_words) := C8.fnScope_by (by decide +kernel)
abbrev s_alike_expressions : Stmt := top 6
abbrev N_alike_expressions : List Str := ["first", "second", "ones", "others", "start", "end", "k"]
abbrev P_alike_expressions : List Str := ["first", "second", "ones", "others"]
theorem sc_alike_expressions : FnScope N_alike_expressions P_alike_expressions (defScope s_alike_expressions) := C8.fnScope_by (by decide +kernel)
abbrev s_alike_parts : Stmt := top 7
abbrev N_alike_parts : List Str := ["first", "second", "ones", "others", "depth", "head", "inner", "k"]
abbrev P_alike_parts : List Str := ["first", "second", "ones", "others", "depth"]
theorem sc_alike_parts : FnScope N_alike_parts P_alike_parts (defScope s_alike_parts) := C8.fnScope_by (by decide +kernel)
abbrev s_are_alike : Stmt := top 8
abbrev N_are_alike : List Str := ["first", "second"]
abbrev P_are_alike : List Str := ["first", "second"]
theorem sc_are_alike : FnScope N_are_alike P_are_alike (defScope s_are_alike) := C8.fnScope_by (by decide +kernel)
abbrev s_law_start : Stmt := top 10
abbrev N_law_start : List Str := ["script", "seed", "k"]
abbrev P_law_start : List Str := ["script"]
theorem sc_law_start : FnScope N_law_start P_law_start (defScope s_law_start) := C8.fnScope_by (by decide +kernel)
abbrev s_law_pick : Stmt := top 11
abbrev N_law_pick : List Str := ["state", "limit", "rest", "cell", "mixed"]
abbrev P_law_pick : List Str := ["state", "limit"]
theorem sc_law_pick : FnScope N_law_pick P_law_pick (defScope s_law_pick) := C8.fnScope_by (by decide +kernel)
abbrev s_law_same : Stmt := top 12
abbrev N_law_same : List Str := ["actual", "due", "p"]
abbrev P_law_same : List Str := ["actual", "due"]
theorem sc_law_same : FnScope N_law_same P_law_same (defScope s_law_same) := C8.fnScope_by (by decide +kernel)
abbrev s_law_number : Stmt := top 13
abbrev N_law_number : List Str := ["state", "way"]
abbrev P_law_number : List Str := ["state"]
theorem sc_law_number : FnScope N_law_number P_law_number (defScope s_law_number) := C8.fnScope_by (by decide +kernel)
abbrev s_law_expression : Stmt := top 14
abbrev N_law_expression : List Str := ["state", "numbers", "rows", "functions", "levels", "way", "words", "word", "first", "second", "name", "more", "row", "k"]
abbrev P_law_expression : List Str := ["state", "numbers", "rows", "functions", "levels"]
theorem sc_law_expression : FnScope N_law_expression P_law_expression (defScope s_law_expression) := C8.fnScope_by (by decide +kernel)
abbrev s_law_new : Stmt := top 15
abbrev N_law_new : List Str := ["state", "used", "letters", "heads", "way", "word", "k"]
abbrev P_law_new : List Str := ["state", "used"]
theorem sc_law_new : FnScope N_law_new P_law_new (defScope s_law_new) := C8.fnScope_by (by decide +kernel)
abbrev s_law_names : Stmt := top 16
abbrev N_law_names : List Str := ["state", "used", "many", "names", "k"]
abbrev P_law_names : List Str := ["state", "used", "many"]
theorem sc_law_names : FnScope N_law_names P_law_names (defScope s_law_names) := C8.fnScope_by (by decide +kernel)
abbrev s_law_with : Stmt := top 17
abbrev N_law_with : List Str := ["env", "name", "worth", "more"]
abbrev P_law_with : List Str := ["env", "name", "worth"]
theorem sc_law_with : FnScope N_law_with P_law_with (defScope s_law_with) := C8.fnScope_by (by decide +kernel)
abbrev s_law_met : Stmt := top 18
abbrev N_law_met : List Str := ["state", "names", "functions", "levels", "room", "way", "numbers", "rows", "first", "head", "word", "start", "inner", "name"]
abbrev P_law_met : List Str := ["state", "names", "functions", "levels", "room"]
theorem sc_law_met : FnScope N_law_met P_law_met (defScope s_law_met) := C8.fnScope_by (by decide +kernel)
abbrev s_law_items : Stmt := top 19
abbrev N_law_items : List Str := ["e"]
abbrev P_law_items : List Str := ["e"]
theorem sc_law_items : FnScope N_law_items P_law_items (defScope s_law_items) := C8.fnScope_by (by decide +kernel)
abbrev s_law_rebuilt : Stmt := top 20
abbrev N_law_rebuilt : List Str := ["e", "items"]
abbrev P_law_rebuilt : List Str := ["e", "items"]
theorem sc_law_rebuilt : FnScope N_law_rebuilt P_law_rebuilt (defScope s_law_rebuilt) := C8.fnScope_by (by decide +kernel)
abbrev s_law_words : Stmt := top 21
abbrev N_law_words : List Str := ["e", "found", "item"]
abbrev P_law_words : List Str := ["e"]
theorem sc_law_words : FnScope N_law_words P_law_words (defScope s_law_words) := C8.fnScope_by (by decide +kernel)
abbrev s_law_free : Stmt := top 22
abbrev N_law_free : List Str := ["s", "word"]
abbrev P_law_free : List Str := ["s"]
theorem sc_law_free : FnScope N_law_free P_law_free (defScope s_law_free) := C8.fnScope_by (by decide +kernel)
abbrev s_law_put : Stmt := top 23
abbrev N_law_put : List Str := ["term", "path", "part"]
abbrev P_law_put : List Str := ["term", "path", "part"]
theorem sc_law_put : FnScope N_law_put P_law_put (defScope s_law_put) := C8.fnScope_by (by decide +kernel)
abbrev s_law_tower : Stmt := top 24
abbrev N_law_tower : List Str := ["state", "names", "functions", "numbers", "rows", "first", "sentence", "free", "k", "word", "name"]
abbrev P_law_tower : List Str := ["state", "names", "functions"]
theorem sc_law_tower : FnScope N_law_tower P_law_tower (defScope s_law_tower) := C8.fnScope_by (by decide +kernel)
abbrev s_law_filled : Stmt := top 25
abbrev N_law_filled : List Str := ["e", "env", "filled", "item"]
abbrev P_law_filled : List Str := ["e", "env"]
theorem sc_law_filled : FnScope N_law_filled P_law_filled (defScope s_law_filled) := C8.fnScope_by (by decide +kernel)
abbrev s_law_plain : Stmt := top 26
abbrev N_law_plain : List Str := ["s", "env", "depth", "word"]
abbrev P_law_plain : List Str := ["s", "env", "depth"]
theorem sc_law_plain : FnScope N_law_plain P_law_plain (defScope s_law_plain) := C8.fnScope_by (by decide +kernel)
abbrev s_law_renamed : Stmt := top 27
abbrev N_law_renamed : List Str := ["state", "s", "env", "words", "first", "barred", "word"]
abbrev P_law_renamed : List Str := ["state", "s", "env", "words"]
theorem sc_law_renamed : FnScope N_law_renamed P_law_renamed (defScope s_law_renamed) := C8.fnScope_by (by decide +kernel)
abbrev s_law_uses_in : Stmt := top 28
abbrev N_law_uses_in : List Str := ["e", "found", "item"]
abbrev P_law_uses_in : List Str := ["e"]
theorem sc_law_uses_in : FnScope N_law_uses_in P_law_uses_in (defScope s_law_uses_in) := C8.fnScope_by (by decide +kernel)
abbrev s_law_uses : Stmt := top 29
abbrev N_law_uses : List Str := ["s", "found", "use"]
abbrev P_law_uses : List Str := ["s"]
theorem sc_law_uses : FnScope N_law_uses P_law_uses (defScope s_law_uses) := C8.fnScope_by (by decide +kernel)
abbrev s_law_fits : Stmt := top 30
abbrev N_law_fits : List Str := ["s", "kinds", "use"]
abbrev P_law_fits : List Str := ["s"]
theorem sc_law_fits : FnScope N_law_fits P_law_fits (defScope s_law_fits) := C8.fnScope_by (by decide +kernel)
abbrev s_law_leaves : Stmt := top 31
abbrev N_law_leaves : List Str := ["term", "path", "found", "k"]
abbrev P_law_leaves : List Str := ["term", "path"]
theorem sc_law_leaves : FnScope N_law_leaves P_law_leaves (defScope s_law_leaves) := C8.fnScope_by (by decide +kernel)
abbrev s_law_other_leaf : Stmt := top 32
abbrev N_law_other_leaf : List Str := ["state", "leaf", "path", "words", "groups", "group"]
abbrev P_law_other_leaf : List Str := ["state", "leaf", "path", "words"]
theorem sc_law_other_leaf : FnScope N_law_other_leaf P_law_other_leaf (defScope s_law_other_leaf) := C8.fnScope_by (by decide +kernel)
abbrev s_law_changed : Stmt := top 33
abbrev N_law_changed : List Str := ["state", "s", "words", "paths", "turn", "path", "leaf", "k", "other"]
abbrev P_law_changed : List Str := ["state", "s", "words"]
theorem sc_law_changed : FnScope N_law_changed P_law_changed (defScope s_law_changed) := C8.fnScope_by (by decide +kernel)
abbrev s_law : Stmt := top 34
abbrev N_law : List Str := ["script", "state", "words", "names", "k", "functions", "sentence", "renamed", "changed", "sentences", "plains", "pairs", "j", "pair", "one"]
abbrev P_law : List Str := ["script"]
theorem sc_law : FnScope N_law P_law (defScope s_law) := C8.fnScope_by (by decide +kernel)
end K06

set_option maxHeartbeats 4000000
namespace K06
open PySem L2 DL
/-! ### what each def promises -/
def B : Nat := 2000000
/-- words put in, as a dict tells -/
def EnvS (M : Mp) (a : Addr) (n : Nat) (env : Env) : Prop := ∃ kvs, M a = some (.dk kvs) ∧ kvs.length ≤ n ∧ ∀ x, (valD kvs (.inr x)).getD (.str x) = .str (env x)
/-- binders' depths, as a dict tells -/
def EnvO (M : Mp) (a : Addr) (n : Nat) (o : Str → Option Nat) : Prop := ∃ kvs, M a = some (.dk kvs) ∧ kvs.length ≤ n ∧ keysOk kvs ∧ (∀ x, valD kvs (.inr x) = (o x).map fun k => .int ((k : Nat) : Int)) ∧ ∀ x k, o x = some k → k < n
def envO (o : Str → Option Nat) : Env := fun x => match o x with
  | some d => bw d
  | none => x
def Strs (M : Mp) (a : Addr) (xs : List Str) : Prop := M a = some (.lst (xs.map D.str))
def Fresh (Q : DK) (M : Mp) (ds : List D) : Prop := ∀ p, M p = none → Q (.ref p) (put M p (.lst ds))
/-- a sentence of the size that is met -/
def fine (S : Se) : Prop := S.wf okw ∧ S.ht ≤ 30 ∧ szD S.toD ≤ B
def NamesOk (kvs : List (Key × D)) : Prop := kvs ≠ [] ∧ kvs.length ≤ 100 ∧ ∀ q, q ∈ kvs → ∃ (x : Str) (i : Int), q = (.inr x, .int i) ∧ okw x ∧ 0 ≤ i ∧ i ≤ 3
def FunsOk (kvs : List (Key × D)) : Prop := kvs.length ≤ 2 ∧ ∀ q, q ∈ kvs → ∃ x : Str, q = (.inr x, .tup [.tup [.str "a"], .str "a"]) ∧ okw x
def rowD (r : Str × Int) : D := .tup [.str r.1, .int r.2]
def RowsOk (rows : List (Str × Int)) : Prop := rows.length ≤ 100 ∧ ∀ r, r ∈ rows → okw r.1 ∧ 1 ≤ r.2 ∧ r.2 ≤ 3
def WordsOk (xs : List Str) : Prop := xs.length ≤ 1000 ∧ ∀ x, x ∈ xs → okw x
def sp_items_start : DSp := fun ds M Q _ => ∃ h r, ds = [.tup (.str h :: r)] ∧ Q (.int (if h = "call" ∨ h = "look" then 2 else 1)) M
def sp_inner_end : DSp := fun ds M Q _ => ∃ (h : Str) (r : List D), ds = [.tup (.str h :: r)] ∧ Q (.int (if h = "table" then 2 else ((r.length + 1 : Nat) : Int))) M
def sp_same_words : DSp := fun ds M Q _ => ∃ x y a b o1 o2 d, ds = [.str x, .str y, .ref a, .ref b] ∧ okw x ∧ okw y ∧ d ≤ 60 ∧ EnvO M a d o1 ∧ EnvO M b d o2 ∧ ∀ r : Bool, (r = true ↔ envO o1 x = envO o2 y) → Q (.bl r) M
def sp_alike_expressions (n : Nat) : DSp := fun ds M Q _ => ∃ (e f : Ex) (a b : Addr) (o1 o2 : Str → Option Nat) (d : Nat), ds = [e.toD, f.toD, .ref a, .ref b] ∧ e.wf okw ∧ f.wf okw ∧ dep e.toD < n ∧ d ≤ 60 ∧ EnvO M a d o1 ∧ EnvO M b d o2 ∧ ∀ r : Bool, (r = true ↔ e.fill (envO o1) = f.fill (envO o2)) → Q (.bl r) M
def sp_alike_parts (n : Nat) : DSp := fun ds M Q _ => ∃ (s t : Se) (a b : Addr) (o1 o2 : Str → Option Nat) (d : Nat), ds = [s.toD, t.toD, .ref a, .ref b, .int (d : Nat)] ∧ s.wf okw ∧ t.wf okw ∧ s.ht < n ∧ s.ht + d ≤ 60 ∧ EnvO M a d o1 ∧ EnvO M b d o2 ∧ ∀ r : Bool, (r = true ↔ s.plain (envO o1) d = t.plain (envO o2) d) → Q (.bl r) M
def sp_are_alike : DSp := fun ds M Q _ => ∃ s t : Se, ds = [s.toD, t.toD] ∧ s.wf okw ∧ t.wf okw ∧ s.ht ≤ 30 ∧ ∀ r : Bool, (r = true ↔ s.plain id 0 = t.plain id 0) → Q (.bl r) M
def sp_law_start1 : DSp := spStart1
def sp_law_start2 (K : PySem.W.Frag) : DSp := spStart2 K
def sp_law_start (K : PySem.W.Frag) : DSp := spStart K
def sp_law_pick : DSp := spPick
def sp_law_same : Nat → DSp := spSame
/-- a draw's promise -/
def Drawn (M : Mp) (s l : Addr) (ns : List Int) (k : Mp → Prop) : Prop := ∀ M', PSt M' s l ns → Ext (Is s) M M' → k M'
def sp_law_number : DSp := fun ds M Q _ => ∃ s l ns, ds = [.ref s] ∧ PSt M s l ns ∧ ∀ i : Int, Drawn M s l ns (Q (.int i))
def sp_law_expression (n : Nat) : DSp := fun ds M Q _ => ∃ (s l : Addr) (ns : List Int) (na ra fa : Addr) (nums : List Str) (rows : List (Str × Int)) (kvs : List (Key × D)) (lv : Nat), ds = [.ref s, .ref na, .ref ra, .ref fa, .int (lv : Nat)] ∧ PSt M s l ns ∧ na ≠ s ∧ ra ≠ s ∧ fa ≠ s ∧
  Strs M na nums ∧ WordsOk nums ∧ M ra = some (.lst (rows.map rowD)) ∧ RowsOk rows ∧ M fa = some (.dk kvs) ∧ FunsOk kvs ∧ lv < n ∧ lv ≤ 2 ∧ ∀ e : Ex, e.wf okw → dep e.toD ≤ lv + 1 → Drawn M s l ns (Q e.toD)
def sp_law_new : DSp := fun ds M Q _ => ∃ s l ns u used, ds = [.ref s, .ref u] ∧ PSt M s l ns ∧ u ≠ s ∧ Strs M u used ∧ ∀ x, okw x → Drawn M s l ns (Q (.str x))
def sp_law_names : DSp := fun ds M Q _ => ∃ s l ns u used, ds = [.ref s, .ref u, .int 5] ∧ PSt M s l ns ∧ u ≠ s ∧ Strs M u used ∧ used.length ≤ 1000 ∧ ∀ p xs, M p = none → xs.length = 5 → WordsOk xs → Drawn M s l ns fun M' => Strs M' p xs → Q (.ref p) M'
def sp_law_with : DSp := fun ds M Q _ => ∃ a x v kvs, ds = [.ref a, .str x, v] ∧ M a = some (.dk kvs) ∧ kvs.length ≤ 10000 ∧ ∀ p, M p = none → Q (.ref p) (put M p (.dk (putKD kvs (.inr x) v)))
def sp_law_met (n : Nat) : DSp := fun ds M Q _ => ∃ (s l : Addr) (ns : List Int) (na fa ro : Addr) (nv kvs : List (Key × D)) (i : Int) (lv : Nat), ds = [.ref s, .ref na, .ref fa, .int (lv : Nat), .ref ro] ∧ PSt M s l ns ∧ M na = some (.dk nv) ∧ NamesOk nv ∧ nv.length + lv ≤ 50 ∧ M fa = some (.dk kvs) ∧ FunsOk kvs ∧
  M ro = some (.lst [.int i]) ∧ ro ≠ s ∧ ro ≠ l ∧ lv < n ∧ ∀ (S : Se) (M' : Mp) (j : Int), S.wf okw → S.ht ≤ lv + 1 → szD S.toD + 4 ≤ 41500 * 2 ^ lv → PSt M' s l ns → Ext (fun a => a = s ∨ a = ro) M M' → M' ro = some (.lst [.int j]) → Q S.toD M'
def sp_law_items : DSp := fun ds M Q _ => ∃ h nm xs tl, ds = [(Ex.nd h nm xs tl).toD] ∧ (Ex.nd h nm xs tl).wf okw ∧ Fresh Q M (Ex.toDs xs)
def sp_law_rebuilt : DSp := fun ds M Q _ => ∃ h nm xs tl ys a, ds = [(Ex.nd h nm xs tl).toD, .ref a] ∧ (Ex.nd h nm xs tl).wf okw ∧ M a = some (.lst (Ex.toDs ys)) ∧ ys.length = xs.length ∧ Q (Ex.nd h nm ys tl).toD M
def sp_law_words (n : Nat) : DSp := fun ds M Q _ => ∃ e : Ex, ds = [e.toD] ∧ e.wf okw ∧ dep e.toD < n ∧ dep e.toD ≤ 3 ∧ ∀ xs : List Str, (∀ x, x ∈ xs → okw x) → xs.length ≤ szD e.toD → Fresh Q M (xs.map D.str)
def sp_law_free (n : Nat) : DSp := fun ds M Q _ => ∃ S : Se, ds = [S.toD] ∧ S.wf okw ∧ S.ht < n ∧ szD S.toD ≤ B ∧ ∀ xs : List Str, (∀ x, x ∈ xs → okw x) → xs.length ≤ szD S.toD → Fresh Q M (xs.map D.str)
def sp_law_put (n : Nat) : DSp := fun ds M Q _ => ∃ d q v d', ds = [d, T q, v] ∧ q.length < n ∧ putD d q v = some d' ∧ pathOk d q ∧ szD d ≤ B ∧ Q d' M
def sp_law_tower : DSp := fun ds M Q _ => ∃ (s l : Addr) (ns : List Int) (na fa : Addr) (nv kvs : List (Key × D)), ds = [.ref s, .ref na, .ref fa] ∧ PSt M s l ns ∧ M na = some (.dk nv) ∧ NamesOk nv ∧ M fa = some (.dk kvs) ∧ FunsOk kvs ∧ ∀ S : Se, fine S → Drawn M s l ns (Q S.toD)
def sp_law_filled (n : Nat) : DSp := fun ds M Q _ => ∃ (e : Ex) (a : Addr) (k : Nat) (env : Env), ds = [e.toD, .ref a] ∧ e.wf okw ∧ dep e.toD < n ∧ EnvS M a k env ∧ Q (e.fill env).toD M
def sp_law_plain (n : Nat) : DSp := fun ds M Q _ => ∃ (S : Se) (a : Addr) (d : Nat) (env : Env), ds = [S.toD, .ref a, .int (d : Nat)] ∧ S.wf okw ∧ S.ht < n ∧ S.ht + d ≤ 60 ∧ EnvS M a d env ∧ Q (S.plain env d).toD M
def sp_law_renamed (n : Nat) : DSp := fun ds M Q _ => ∃ (s l : Addr) (ns : List Int) (S : Se) (a w : Addr) (k : Nat) (env : Env) (words : List Str), ds = [.ref s, S.toD, .ref a, .ref w] ∧ PSt M s l ns ∧ S.wf okw ∧ S.ht < n ∧ szD S.toD ≤ B ∧ EnvS M a k env ∧ k + S.ht ≤ 39 ∧ (∀ x, okw x → okw (env x)) ∧
  w ≠ s ∧ Strs M w words ∧ WordsOk words ∧ words ≠ [] ∧ ∀ S' : Se, S'.wf okw → S'.ht = S.ht → szD S'.toD = szD S.toD → Drawn M s l ns (Q S'.toD)
def useD (r : Str × Int) : D := .tup [.str r.1, .int r.2]
def sp_law_uses_in (n : Nat) : DSp := fun ds M Q _ => ∃ e : Ex, ds = [e.toD] ∧ e.wf okw ∧ dep e.toD < n ∧ dep e.toD ≤ 3 ∧ ∀ us : List (Str × Int), us.length ≤ szD e.toD → Fresh Q M (us.map useD)
def sp_law_uses (n : Nat) : DSp := fun ds M Q _ => ∃ S : Se, ds = [S.toD] ∧ S.wf okw ∧ S.ht < n ∧ szD S.toD ≤ B ∧ ∀ us : List (Str × Int), us.length ≤ szD S.toD → Fresh Q M (us.map useD)
def sp_law_fits : DSp := fun ds M Q _ => ∃ S : Se, ds = [S.toD] ∧ fine S ∧ ∀ r : Bool, Q (.bl r) M
def sp_law_leaves (n : Nat) : DSp := fun ds M Q _ => ∃ d q, ds = [d, T q] ∧ pureD d = true ∧ dep d < n ∧ szD d ≤ B ∧ q.length + dep d ≤ 1000 ∧ Fresh Q M ((leavesD d).map fun r => T (q ++ r))
def sp_law_other_leaf : DSp := fun ds M Q _ => ∃ (s l : Addr) (ns : List Int) (v : D) (q : List Int) (i : Int) (w : Addr) (words : List Str), ds = [.ref s, v, T (q ++ [i]), .ref w] ∧ PSt M s l ns ∧ ((∃ j, v = .int j) ∨ ∃ x, v = .str x) ∧ w ≠ s ∧ Strs M w words ∧ WordsOk words ∧ ∀ v', okCh i v v' → Drawn M s l ns (Q v')
def sp_law_changed : DSp := fun ds M Q _ => ∃ (s l : Addr) (ns : List Int) (S : Se) (w : Addr) (words : List Str), ds = [.ref s, S.toD, .ref w] ∧ PSt M s l ns ∧ fine S ∧ w ≠ s ∧ Strs M w words ∧ WordsOk words ∧ ∀ S' : Se, fine S' → Drawn M s l ns (Q S'.toD)
def sp_law (K : PySem.W.Frag) : DSp := spScript K
end K06

set_option maxHeartbeats 4000000
namespace K06
open PySem PySem.Spec L2 DL
section
variable {P : Program} {w : World} {K : PySem.W.Frag} {mg : Str → Option Value} {base : Heap} {A : Adr}
def t_items_start (K : PySem.W.Frag) (A : Adr) : DS :=
  (dSeq (dIfS (dOr (dB (dOp eqD (dOp ixG (dVar 0) (dC (.int 0))) (dC (.str "call")))) (dB (dOp eqD (dOp ixG (dVar 0) (dC (.int 0))) (dC (.str "look"))))) (dRet (dC (.int 2))) dNext)
    (dRet (dC (.int 1))))
theorem ok_items_start {f : Addr} {fd : FuncData} (T : Txt w K mg A)  (F : L2.Fun K "items_start" "items_start" s_items_start f fd) (sp : DSp) (len : ∀ ds M Q E, sp ds M Q E → ds.length = P_items_start.length) (h : ∀ ds M Q E, sp ds M Q E → t_items_start K A (ends Q E) (dstart N_items_start ds) M) :
    FnOk P w K mg base (L2.CX P w) (0 + 1) f fd P_items_start (liftSp K sp) :=
  okD F sc_items_start len fun cdv A outer s H E hr tk => ⟨t_items_start K _, (pssd_cons (psd_if (PWD.pt (pwd_or (pt_cmpD (op_eqG (u200 hr)) (pd_ix ix_G (pdv 0) pd_int (fun _ _ => rfl)) pd_str (nomark _)) (pwd_or1 (pt_cmpD (op_eqG (u200 hr)) (pd_ix ix_G (pdv 0) pd_int (fun _ _ => rfl)) pd_str (nomark _))))) (pssd_one (psd_ret pd_int)) pssd_nil)
    (pssd_one (psd_ret pd_int))), h⟩
def t_inner_end (K : PySem.W.Frag) (A : Adr) : DS :=
  (dSeq (dIfS (dB (dOp eqD (dOp ixG (dVar 0) (dC (.int 0))) (dC (.str "table")))) (dRet (dC (.int 2))) dNext)
    (dRet (dCB lenG (dCons (dVar 0) dNil))))
theorem ok_inner_end {f : Addr} {fd : FuncData} (T : Txt w K mg A)  (F : L2.Fun K "inner_end" "inner_end" s_inner_end f fd) (sp : DSp) (len : ∀ ds M Q E, sp ds M Q E → ds.length = P_inner_end.length) (h : ∀ ds M Q E, sp ds M Q E → t_inner_end K A (ends Q E) (dstart N_inner_end ds) M) :
    FnOk P w K mg base (L2.CX P w) (0 + 1) f fd P_inner_end (liftSp K sp) :=
  okD F sc_inner_end len fun cdv A outer s H E hr tk => ⟨t_inner_end K _, (pssd_cons (psd_if (pt_cmpD (op_eqG (u200 hr)) (pd_ix ix_G (pdv 0) pd_int (fun _ _ => rfl)) pd_str (nomark _)) (pssd_one (psd_ret pd_int)) pssd_nil)
    (pssd_one (psd_ret (pd_callB call_lenG rfl T.n_len bt_len (pad_cons (pdv 0) pad_nil))))), h⟩
def t_same_words (K : PySem.W.Frag) (A : Adr) : DS :=
  (dSeq (dIfS (dOr (dB (dDIn false (dVar 0) (dVar 2))) (dB (dDIn false (dVar 1) (dVar 3)))) (dRet (dAndV (dDIn false (dVar 0) (dVar 2)) (dAndV (dDIn false (dVar 1) (dVar 3)) (dOp eqD (dDGet (dVar 2) (dVar 0)) (dDGet (dVar 3) (dVar 1)))))) dNext)
    (dRet (dOp eqD (dVar 0) (dVar 1))))
theorem ok_same_words {f : Addr} {fd : FuncData} (T : Txt w K mg A)  (F : L2.Fun K "same_words" "same_words" s_same_words f fd) (sp : DSp) (len : ∀ ds M Q E, sp ds M Q E → ds.length = P_same_words.length) (h : ∀ ds M Q E, sp ds M Q E → t_same_words K A (ends Q E) (dstart N_same_words ds) M) :
    FnOk P w K mg base (L2.CX P w) (0 + 1) f fd P_same_words (liftSp K sp) :=
  okD F sc_same_words len fun cdv A outer s H E hr tk => ⟨t_same_words K _, (pssd_cons (psd_if (PWD.pt (pwd_or (ptd_din (u1 hr) (pdv 0) (pdv 2)) (pwd_or1 (ptd_din (u1 hr) (pdv 1) (pdv 3))))) (pssd_one (psd_ret (pd_and (pd_din (u1 hr) (pdv 0) (pdv 2)) (pd_and (pd_din (u1 hr) (pdv 1) (pdv 3)) (pd_one (pd_cmp (op_eqG (u200 hr)) (pd_dget (u1 hr) (pdv 2) (pdv 0) (fun _ _ => rfl)) (pd_dget (u1 hr) (pdv 3) (pdv 1) (fun _ _ => rfl)) (nomark _))))))) pssd_nil)
    (pssd_one (psd_ret (pd_cmp (op_eqG (u200 hr)) (pdv 0) (pdv 1) (nomark _))))), h⟩
def t_alike_expressions (K : PySem.W.Frag) (A : Adr) (n : Nat) : DS :=
  (dSeq (dIfS (dTru (dCB (isiG K) (dCons (dVar 0) (dCons (dC (.ty "str")) dNil)))) (dRet (dAndV (dCB (isiG K) (dCons (dVar 1) (dCons (dC (.ty "str")) dNil))) (dCall sp_same_words [] (dCons (dVar 0) (dCons (dVar 1) (dCons (dVar 2) (dCons (dVar 3) dNil))))))) dNext)
    (dSeq (dIfS (dOr (dTru (dCB (isiG K) (dCons (dVar 0) (dCons (dC (.ty "int")) dNil)))) (dNot (dTru (dCB (isiG K) (dCons (dVar 1) (dCons (dC (.ty "tuple")) dNil)))))) (dRet (dOp eqD (dVar 0) (dVar 1))) dNext)
    (dSeq (dIfS (dOr (dB (dOp neD (dOp ixG (dVar 0) (dC (.int 0))) (dOp ixG (dVar 1) (dC (.int 0))))) (dB (dOp neD (dCB lenG (dCons (dVar 0) dNil)) (dCB lenG (dCons (dVar 1) dNil))))) (dRet (dC (.bl false))) dNext)
    (dSeq (dIfS (dAnd (dB (dOp eqD (dOp ixG (dVar 0) (dC (.int 0))) (dC (.str "look")))) (dNot (dTru (dCall sp_same_words [] (dCons (dOp ixG (dVar 0) (dC (.int 1))) (dCons (dOp ixG (dVar 1) (dC (.int 1))) (dCons (dVar 2) (dCons (dVar 3) dNil)))))))) (dRet (dC (.bl false))) dNext)
    (dSeq (dAsg (dCall sp_items_start [] (dCons (dVar 0) dNil)) (dName 4))
    (dSeq (dAsg (dCall sp_inner_end [] (dCons (dVar 0) dNil)) (dName 5))
    (dSeq (dIfS (dOr (dAnd (dB (dOp eqD (dOp ixG (dVar 0) (dC (.int 0))) (dC (.str "call")))) (dB (dOp neD (dOp ixG (dVar 0) (dC (.int 1))) (dOp ixG (dVar 1) (dC (.int 1)))))) (dB (dOp neD (dSl (dVar 0) (dPart (dVar 5)) dNoP) (dSl (dVar 1) (dPart (dVar 5)) dNoP)))) (dRet (dC (.bl false))) dNext)
    (dRet (dCB (allG fun bs => bs.all id) (dCons (dLc (dRng2 (dCons (dVar 4) (dCons (dVar 5) dNil))) (fun d τ => τ.set 6 (some d)) dYes (dCall (sp_alike_expressions n) [] (dCons (dOp ixG (dVar 0) (dVar 6)) (dCons (dOp ixG (dVar 1) (dVar 6)) (dCons (dVar 2) (dCons (dVar 3) dNil))))) [6]) dNil))))))))))
theorem ok_alike_expressions {f : Addr} {fd : FuncData} {n : Nat} (T : Txt w K mg A) (G_alike_expressions : FnD P w K mg base (1 + n) "alike_expressions" P_alike_expressions [] (sp_alike_expressions n)) (G_inner_end : FnD P w K mg base 1 "inner_end" P_inner_end [] sp_inner_end) (G_items_start : FnD P w K mg base 1 "items_start" P_items_start [] sp_items_start) (G_same_words : FnD P w K mg base 1 "same_words" P_same_words [] sp_same_words) (F : L2.Fun K "alike_expressions" "alike_expressions" s_alike_expressions f fd) (sp : DSp) (len : ∀ ds M Q E, sp ds M Q E → ds.length = P_alike_expressions.length) (h : ∀ ds M Q E, sp ds M Q E → t_alike_expressions K A n (ends Q E) (dstart N_alike_expressions ds) M) :
    FnOk P w K mg base (L2.CX P w) (1 + n + 1) f fd P_alike_expressions (liftSp K sp) :=
  okD F sc_alike_expressions len fun cdv A outer s H E hr tk => ⟨t_alike_expressions K _ n, (pssd_cons (psd_if (ptd_tru (pd_callB call_isiG rfl T.n_isinstance bt_isinstance (pad_cons (pdv 0) (pad_cons (pd_ty rfl T.n_str bt_str) pad_nil)))) (pssd_one (psd_ret (pd_and (pd_callB call_isiG rfl T.n_isinstance bt_isinstance (pad_cons (pdv 1) (pad_cons (pd_ty rfl T.n_str bt_str) pad_nil))) (pd_one (pd_call G_same_words (hr.mono (by omega)) tk rfl (pad_cons (pdv 0) (pad_cons (pdv 1) (pad_cons (pdv 2) (pad_cons (pdv 3) pad_nil))))))))) pssd_nil)
    (pssd_cons (psd_if (PWD.pt (pwd_or (ptd_tru (pd_callB call_isiG rfl T.n_isinstance bt_isinstance (pad_cons (pdv 0) (pad_cons (pd_ty rfl T.n_int bt_int) pad_nil)))) (pwd_or1 (ptd_not (ptd_tru (pd_callB call_isiG rfl T.n_isinstance bt_isinstance (pad_cons (pdv 1) (pad_cons (pd_ty rfl T.n_tuple bt_tuple) pad_nil)))))))) (pssd_one (psd_ret (pd_cmp (op_eqG (u200 hr)) (pdv 0) (pdv 1) (nomark _)))) pssd_nil)
    (pssd_cons (psd_if (PWD.pt (pwd_or (pt_cmpD (op_neG (u200 hr)) (pd_ix ix_G (pdv 0) pd_int (fun _ _ => rfl)) (pd_ix ix_G (pdv 1) pd_int (fun _ _ => rfl)) (nomark _)) (pwd_or1 (pt_cmpD (op_neG (u200 hr)) (pd_callB call_lenG rfl T.n_len bt_len (pad_cons (pdv 0) pad_nil)) (pd_callB call_lenG rfl T.n_len bt_len (pad_cons (pdv 1) pad_nil)) (nomark _))))) (pssd_one (psd_ret pd_bl)) pssd_nil)
    (pssd_cons (psd_if (PWD.pt (pwd_and (pt_cmpD (op_eqG (u200 hr)) (pd_ix ix_G (pdv 0) pd_int (fun _ _ => rfl)) pd_str (nomark _)) (pwd_and1 (ptd_not (ptd_tru (pd_call G_same_words (hr.mono (by omega)) tk rfl (pad_cons (pd_ix ix_G (pdv 0) pd_int (fun _ _ => rfl)) (pad_cons (pd_ix ix_G (pdv 1) pd_int (fun _ _ => rfl)) (pad_cons (pdv 2) (pad_cons (pdv 3) pad_nil)))))))))) (pssd_one (psd_ret pd_bl)) pssd_nil)
    (pssd_cons (psd_set (i := 4) sc_alike_expressions.nd rfl (Or.inl rfl) (pd_call G_items_start (hr.mono (by omega)) tk rfl (pad_cons (pdv 0) pad_nil)))
    (pssd_cons (psd_set (i := 5) sc_alike_expressions.nd rfl (Or.inl rfl) (pd_call G_inner_end (hr.mono (by omega)) tk rfl (pad_cons (pdv 0) pad_nil)))
    (pssd_cons (psd_if (PWD.pt (pwd_or (PWD.pt (pwd_and (pt_cmpD (op_eqG (u200 hr)) (pd_ix ix_G (pdv 0) pd_int (fun _ _ => rfl)) pd_str (nomark _)) (pwd_and1 (pt_cmpD (op_neG (u200 hr)) (pd_ix ix_G (pdv 0) pd_int (fun _ _ => rfl)) (pd_ix ix_G (pdv 1) pd_int (fun _ _ => rfl)) (nomark _))))) (pwd_or1 (pt_cmpD (op_neG (u200 hr)) (pd_slice (pdv 0) (pod_some (pdv 5)) pod_none) (pd_slice (pdv 1) (pod_some (pdv 5)) pod_none) (nomark _))))) (pssd_one (psd_ret pd_bl)) pssd_nil)
    (pssd_one (psd_ret (pd_callB (call_allG rfl) rfl T.n_all bt_all (pad_cons (pd_lc (own := [("k", 6)]) (i := 6) rfl sc_alike_expressions.nd (pid_rng2 rfl T.n_range (pad_cons (pdv 4) (pad_cons (pdv 5) pad_nil))) (blkOk_by (N := N_alike_expressions) (sc := defScope s_alike_expressions) (by decide +kernel)) (by decide) (fun _ _ _ _ _ => pg_name (i := 6) sc_alike_expressions.nd rfl (Or.inl rfl)) (fun _ _ _ _ _ => ptsd_nil) (fun _ _ _ _ _ => (pd_call G_alike_expressions (hr.mono (by omega)) tk0 rfl (pad_cons (pd_ix ix_G (pdv 0) (pdv 6) (fun _ _ => rfl)) (pad_cons (pd_ix ix_G (pdv 1) (pdv 6) (fun _ _ => rfl)) (pad_cons (pdv 2) (pad_cons (pdv 3) pad_nil))))))) pad_nil))))))))))), h⟩
def t_alike_parts (K : PySem.W.Frag) (A : Adr) (n : Nat) : DS :=
  (dSeq (dAsg (dOp ixG (dVar 0) (dC (.int 0))) (dName 5))
    (dSeq (dIfS (dB (dOp neD (dVar 5) (dOp ixG (dVar 1) (dC (.int 0))))) (dRet (dC (.bl false))) dNext)
    (dSeq (dIfS (dB (dOp (inKD K A.BOUND_KINDS false) (dVar 5) (dC (.ref A.BOUND_KINDS)))) (dSeq (dIfS (dB (dOp neD (dSl (dVar 0) (dPart (dC (.int 2))) (dPart (dNeg (dC (.int 1))))) (dSl (dVar 1) (dPart (dC (.int 2))) (dPart (dNeg (dC (.int 1))))))) (dRet (dC (.bl false))) dNext)
    (dSeq (dAsg (dDStar (dVar 2) (dOp ixG (dVar 0) (dC (.int 1))) (dVar 4)) (dName 6))
    (dRet (dCall (sp_alike_parts n) [] (dCons (dOp ixG (dVar 0) (dNeg (dC (.int 1)))) (dCons (dOp ixG (dVar 1) (dNeg (dC (.int 1)))) (dCons (dVar 6) (dCons (dDStar (dVar 3) (dOp ixG (dVar 1) (dC (.int 1))) (dVar 4)) (dCons (dOp addD (dVar 4) (dC (.int 1))) dNil))))))))) dNext)
    (dSeq (dIfS (dB (dOp eqD (dVar 5) (dC (.str "is")))) (dRet (dCB (allG fun bs => bs.all id) (dCons (dLc (dIter (dTup (dCons (dC (.int 1)) (dCons (dC (.int 2)) dNil)))) (fun d τ => τ.set 7 (some d)) dYes (dCall (sp_alike_expressions 6) [] (dCons (dOp ixG (dVar 0) (dVar 7)) (dCons (dOp ixG (dVar 1) (dVar 7)) (dCons (dVar 2) (dCons (dVar 3) dNil))))) [7]) dNil))) dNext)
    (dRet (dCB (allG fun bs => bs.all id) (dCons (dLc (dIter (dTup (dCons (dC (.int 1)) (dCons (dC (.int 2)) dNil)))) (fun d τ => τ.set 7 (some d)) dYes (dCall (sp_alike_parts n) [] (dCons (dOp ixG (dVar 0) (dVar 7)) (dCons (dOp ixG (dVar 1) (dVar 7)) (dCons (dVar 2) (dCons (dVar 3) (dCons (dVar 4) dNil)))))) [7]) dNil)))))))
theorem ok_alike_parts {f : Addr} {fd : FuncData} {n : Nat} (T : Txt w K mg A) (G_alike_expressions : FnD P w K mg base 7 "alike_expressions" P_alike_expressions [] (sp_alike_expressions 6)) (G_alike_parts : FnD P w K mg base (7 + n) "alike_parts" P_alike_parts [] (sp_alike_parts n)) (F : L2.Fun K "alike_parts" "alike_parts" s_alike_parts f fd) (sp : DSp) (len : ∀ ds M Q E, sp ds M Q E → ds.length = P_alike_parts.length) (h : ∀ ds M Q E, sp ds M Q E → t_alike_parts K A n (ends Q E) (dstart N_alike_parts ds) M) :
    FnOk P w K mg base (L2.CX P w) (7 + n + 1) f fd P_alike_parts (liftSp K sp) :=
  okD F sc_alike_parts len fun cdv A outer s H E hr tk => ⟨t_alike_parts K _ n, (pssd_cons (psd_set (i := 5) sc_alike_parts.nd rfl (Or.inl rfl) (pd_ix ix_G (pdv 0) pd_int (fun _ _ => rfl)))
    (pssd_cons (psd_if (pt_cmpD (op_neG (u200 hr)) (pdv 5) (pd_ix ix_G (pdv 1) pd_int (fun _ _ => rfl)) (nomark _)) (pssd_one (psd_ret pd_bl)) pssd_nil)
    (pssd_cons (psd_if (pt_cmpD (T.in_BOUND_KINDS rfl rfl) (pdv 5) (pd_cls rfl T.k_BOUND_KINDS) (by with_unfolding_all rfl)) (pssd_cons (psd_if (pt_cmpD (op_neG (u200 hr)) (pd_slice (pdv 0) (pod_some pd_int) (pod_some (pd_neg pd_int))) (pd_slice (pdv 1) (pod_some pd_int) (pod_some (pd_neg pd_int))) (nomark _)) (pssd_one (psd_ret pd_bl)) pssd_nil)
    (pssd_cons (psd_set (i := 6) sc_alike_parts.nd rfl (Or.inl rfl) (pd_dstar (pdv 2) (pd_ix ix_G (pdv 0) pd_int (fun _ _ => rfl)) (pdv 4)))
    (pssd_one (psd_ret (pd_call G_alike_parts (hr.mono (by omega)) tk rfl (pad_cons (pd_ix ix_G (pdv 0) (pd_neg pd_int) (fun _ _ => rfl)) (pad_cons (pd_ix ix_G (pdv 1) (pd_neg pd_int) (fun _ _ => rfl)) (pad_cons (pdv 6) (pad_cons (pd_dstar (pdv 3) (pd_ix ix_G (pdv 1) pd_int (fun _ _ => rfl)) (pdv 4)) (pad_cons (pd_op op_addD (pdv 4) pd_int) pad_nil)))))))))) pssd_nil)
    (pssd_cons (psd_if (pt_cmpD (op_eqG (u200 hr)) (pdv 5) pd_str (nomark _)) (pssd_one (psd_ret (pd_callB (call_allG rfl) rfl T.n_all bt_all (pad_cons (pd_lc (own := [("k", 7)]) (i := 7) rfl sc_alike_parts.nd (pid_any (pd_tup (pad_cons pd_int (pad_cons pd_int pad_nil)))) (blkOk_by (N := N_alike_parts) (sc := defScope s_alike_parts) (by decide +kernel)) (by decide) (fun _ _ _ _ _ => pg_name (i := 7) sc_alike_parts.nd rfl (Or.inl rfl)) (fun _ _ _ _ _ => ptsd_nil) (fun _ _ _ _ _ => (pd_call G_alike_expressions (hr.mono (by omega)) tk0 rfl (pad_cons (pd_ix ix_G (pdv 0) (pdv 7) (fun _ _ => rfl)) (pad_cons (pd_ix ix_G (pdv 1) (pdv 7) (fun _ _ => rfl)) (pad_cons (pdv 2) (pad_cons (pdv 3) pad_nil))))))) pad_nil)))) pssd_nil)
    (pssd_one (psd_ret (pd_callB (call_allG rfl) rfl T.n_all bt_all (pad_cons (pd_lc (own := [("k", 7)]) (i := 7) rfl sc_alike_parts.nd (pid_any (pd_tup (pad_cons pd_int (pad_cons pd_int pad_nil)))) (blkOk_by (N := N_alike_parts) (sc := defScope s_alike_parts) (by decide +kernel)) (by decide) (fun _ _ _ _ _ => pg_name (i := 7) sc_alike_parts.nd rfl (Or.inl rfl)) (fun _ _ _ _ _ => ptsd_nil) (fun _ _ _ _ _ => (pd_call G_alike_parts (hr.mono (by omega)) tk0 rfl (pad_cons (pd_ix ix_G (pdv 0) (pdv 7) (fun _ _ => rfl)) (pad_cons (pd_ix ix_G (pdv 1) (pdv 7) (fun _ _ => rfl)) (pad_cons (pdv 2) (pad_cons (pdv 3) (pad_cons (pdv 4) pad_nil)))))))) pad_nil)))))))), h⟩
def t_are_alike (K : PySem.W.Frag) (A : Adr) : DS :=
  (dRet (dOrV (dOp eqD (dVar 0) (dVar 1)) (dCall (sp_alike_parts 40) [] (dCons (dVar 0) (dCons (dVar 1) (dCons dDNew (dCons dDNew (dCons (dC (.int 0)) dNil))))))))
theorem ok_are_alike {f : Addr} {fd : FuncData} (T : Txt w K mg A) (G_alike_parts : FnD P w K mg base 47 "alike_parts" P_alike_parts [] (sp_alike_parts 40)) (F : L2.Fun K "are_alike" "are_alike" s_are_alike f fd) (sp : DSp) (len : ∀ ds M Q E, sp ds M Q E → ds.length = P_are_alike.length) (h : ∀ ds M Q E, sp ds M Q E → t_are_alike K A (ends Q E) (dstart N_are_alike ds) M) :
    FnOk P w K mg base (L2.CX P w) (47 + 1) f fd P_are_alike (liftSp K sp) :=
  okD F sc_are_alike len fun cdv A outer s H E hr tk => ⟨t_are_alike K _, (pssd_one (psd_ret (pd_or (pd_cmp (op_eqG (u200 hr)) (pdv 0) (pdv 1) (nomark _)) (pd_one (pd_call G_alike_parts (hr.mono (by omega)) tk rfl (pad_cons (pdv 0) (pad_cons (pdv 1) (pad_cons pd_dnew (pad_cons pd_dnew (pad_cons pd_int pad_nil)))))))))), h⟩
def t_law_start (K : PySem.W.Frag) (A : Adr) : DS :=
  (dSeq (dAsg (dC (.int 7)) (dName 1))
    (dSeq (dFor (dRng1 (dCons (dCB lenG (dCons (dVar 0) dNil)) dNil)) (dName 2) (dAsg (dOp (oI (fun _ j => 0 < j) fun i j => .int (i % j)) (dOp addD (dOp addD (dOp addD (dOp mulD (dVar 1) (dC (.int 48271))) (dOp (oI (fun _ j => 0 < j) fun i j => .int (i % j)) (dCB intG (dCons (dOp ixG (dVar 0) (dVar 2)) dNil)) (dC (.int 2147483647)))) (dVar 2)) (dC (.int 1))) (dC (.int 2147483647))) (dName 1)))
    (dRet (dLst (dCons (dVar 1) (dCons (dCB lstG (dCons (dVar 0) dNil)) (dCons (dC (.int 0)) (dCons (dC (.int 0)) dNil))))))))
theorem ok_law_start {f : Addr} {fd : FuncData} (T : Txt w K mg A)  (F : L2.Fun K "_law_start" "_law_start" s_law_start f fd) (sp : DSp) (len : ∀ ds M Q E, sp ds M Q E → ds.length = P_law_start.length) (h : ∀ ds M Q E, sp ds M Q E → t_law_start K A (ends Q E) (dstart N_law_start ds) M) :
    FnOk P w K mg base (L2.CX P w) (0 + 1) f fd P_law_start (liftSp K sp) :=
  okD F sc_law_start len fun cdv A outer s H E hr tk => ⟨t_law_start K _, (pssd_cons (psd_set (i := 1) sc_law_start.nd rfl (Or.inl rfl) pd_int)
    (pssd_cons (psd_for (passes_of rfl) rfl (pid_rng1 rfl T.n_range (pad_cons (pd_callB call_lenG rfl T.n_len bt_len (pad_cons (pdv 0) pad_nil)) pad_nil)) (pgd_name (pg_name (i := 2) sc_law_start.nd rfl (Or.inl rfl))) (pssd_one (psd_set (i := 1) sc_law_start.nd rfl (Or.inl rfl) (pd_op op_modD (pd_op op_addD (pd_op op_addD (pd_op op_addD (pd_op op_mulD (pdv 1) pd_int) (pd_op op_modD (pd_callT call_intG rfl T.n_int bt_int (pad_cons (pd_ix ix_G (pdv 0) (pdv 2) (fun _ _ => rfl)) pad_nil)) pd_int)) (pdv 2)) pd_int) pd_int))))
    (pssd_one (psd_ret (pd_lst (pad_cons (pdv 1) (pad_cons (pd_callT call_lstG rfl T.n_list bt_list (pad_cons (pdv 0) pad_nil)) (pad_cons pd_int (pad_cons pd_int pad_nil))))))))), h⟩
def t_law_startK (K : PySem.W.Frag) (A : Adr) : DS :=
  (dSeq (dAsg (dC (.int 7)) (dName 1))
    (dSeq (dFor (dRng1 (dCons (dCB (lenK K) (dCons (dVar 0) dNil)) dNil)) (dName 2) (dAsg (dOp (oI (fun _ j => 0 < j) fun i j => .int (i % j)) (dOp addD (dOp addD (dOp addD (dOp mulD (dVar 1) (dC (.int 48271))) (dOp (oI (fun _ j => 0 < j) fun i j => .int (i % j)) (dCB intG (dCons (dOp (ixK K) (dVar 0) (dVar 2)) dNil)) (dC (.int 2147483647)))) (dVar 2)) (dC (.int 1))) (dC (.int 2147483647))) (dName 1)))
    (dRet (dLst (dCons (dVar 1) (dCons (dCB (lstK K) (dCons (dVar 0) dNil)) (dCons (dC (.int 0)) (dCons (dC (.int 0)) dNil))))))))
theorem ok_law_startK {f : Addr} {fd : FuncData} (T : Txt w K mg A)  (F : L2.Fun K "_law_start" "_law_start" s_law_start f fd) (sp : DSp) (len : ∀ ds M Q E, sp ds M Q E → ds.length = P_law_start.length) (h : ∀ ds M Q E, sp ds M Q E → t_law_startK K A (ends Q E) (dstart N_law_start ds) M) :
    FnOk P w K mg base (L2.CX P w) (0 + 1) f fd P_law_start (liftSp K sp) :=
  okD F sc_law_start len fun cdv A outer s H E hr tk => ⟨t_law_startK K _, (pssd_cons (psd_set (i := 1) sc_law_start.nd rfl (Or.inl rfl) pd_int)
    (pssd_cons (psd_for (passes_of rfl) rfl (pid_rng1 rfl T.n_range (pad_cons (pd_callB call_lenK rfl T.n_len bt_len (pad_cons (pdv 0) pad_nil)) pad_nil)) (pgd_name (pg_name (i := 2) sc_law_start.nd rfl (Or.inl rfl))) (pssd_one (psd_set (i := 1) sc_law_start.nd rfl (Or.inl rfl) (pd_op op_modD (pd_op op_addD (pd_op op_addD (pd_op op_addD (pd_op op_mulD (pdv 1) pd_int) (pd_op op_modD (pd_callT call_intG rfl T.n_int bt_int (pad_cons (pd_ix ix_K (pdv 0) (pdv 2) (fun _ _ => rfl)) pad_nil)) pd_int)) (pdv 2)) pd_int) pd_int))))
    (pssd_one (psd_ret (pd_lst (pad_cons (pdv 1) (pad_cons (pd_callT call_lstK rfl T.n_list bt_list (pad_cons (pdv 0) pad_nil)) (pad_cons pd_int (pad_cons pd_int pad_nil))))))))), h⟩
def t_law_pick (K : PySem.W.Frag) (A : Adr) : DS :=
  (dSeq (dIfS (dB (dOp (oI0 fun i j => .bl (decide (j ≤ i))) (dOp ixG (dVar 0) (dC (.int 3))) (dVar 1))) (dSeq (dAsg (dCB intG (dCons (dOp ixG (dVar 0) (dC (.int 3))) dNil)) (dName 2))
    (dSeq (dAsg (dOp (oI CDivW fun i j => .int (i / j)) (dVar 2) (dVar 1)) (dGSub (dVar 0) (dC (.int 3))))
    (dRet (dOp (oI (fun _ j => 0 < j) fun i j => .int (i % j)) (dVar 2) (dVar 1))))) dNext)
    (dSeq (dAsg (dC (.int 11)) (dName 3))
    (dSeq (dIfS (dB (dOp (oI0 fun i j => .bl (decide (i < j))) (dOp ixG (dVar 0) (dC (.int 2))) (dCB lenG (dCons (dOp ixG (dVar 0) (dC (.int 1))) dNil)))) (dSeq (dAsg (dCB intG (dCons (dOp ixG (dOp ixG (dVar 0) (dC (.int 1))) (dOp ixG (dVar 0) (dC (.int 2)))) dNil)) (dName 3))
    (dSeq (dAsg (dOp addD (dOp ixG (dVar 0) (dC (.int 2))) (dC (.int 1))) (dGSub (dVar 0) (dC (.int 2))))
    (dSeq (dIfS (dB (dOp (oI0 fun i j => .bl (decide (i < j))) (dVar 3) (dC (.int 0)))) (dAsg (dOp (oI0 fun i j => .int (i - j)) (dC (.int 1)) (dVar 3)) (dName 3)) dNext)
    (dIfS (dB (dOp (oI0 fun i j => .bl (decide (j ≤ i))) (dVar 3) (dOp (oI CPow fun i j => .int (i ^ j.toNat)) (dC (.int 10)) (dC (.int 18))))) (dSeq (dAsg (dOp (oI CDivW fun i j => .int (i / j)) (dVar 3) (dVar 1)) (dGSub (dVar 0) (dC (.int 3))))
    (dRet (dOp (oI (fun _ j => 0 < j) fun i j => .int (i % j)) (dVar 3) (dVar 1)))) dNext)))) dNext)
    (dSeq (dAsg (dOp (oI (fun _ j => 0 < j) fun i j => .int (i % j)) (dOp mulD (dOp addD (dOp addD (dCB intG (dCons (dOp ixG (dVar 0) (dC (.int 0))) dNil)) (dOp (oI (fun _ j => 0 < j) fun i j => .int (i % j)) (dVar 3) (dC (.int 2147483647)))) (dC (.int 1))) (dC (.int 48271))) (dC (.int 2147483647))) (dName 4))
    (dSeq (dAsg (dOp (oI (fun _ j => 0 < j) fun i j => .int (i % j)) (dOp addD (dOp mulD (dVar 4) (dC (.int 69621))) (dC (.int 12345))) (dC (.int 2147483647))) (dGSub (dVar 0) (dC (.int 0))))
    (dRet (dOp (oI (fun _ j => 0 < j) fun i j => .int (i % j)) (dOp (oI CDivW fun i j => .int (i / j)) (dCB intG (dCons (dOp ixG (dVar 0) (dC (.int 0))) dNil)) (dC (.int 7))) (dVar 1))))))))
theorem ok_law_pick {f : Addr} {fd : FuncData} (T : Txt w K mg A)  (F : L2.Fun K "_law_pick" "_law_pick" s_law_pick f fd) (sp : DSp) (len : ∀ ds M Q E, sp ds M Q E → ds.length = P_law_pick.length) (h : ∀ ds M Q E, sp ds M Q E → t_law_pick K A (ends Q E) (dstart N_law_pick ds) M) :
    FnOk P w K mg base (L2.CX P w) (0 + 1) f fd P_law_pick (liftSp K sp) :=
  okD F sc_law_pick len fun cdv A outer s H E hr tk => ⟨t_law_pick K _, (pssd_cons (psd_if (pt_cmpD op_geD (pd_ix ix_G (pdv 0) pd_int (fun _ _ => rfl)) (pdv 1) (nomark _)) (pssd_cons (psd_set (i := 2) sc_law_pick.nd rfl (Or.inl rfl) (pd_callT call_intG rfl T.n_int bt_int (pad_cons (pd_ix ix_G (pdv 0) pd_int (fun _ _ => rfl)) pad_nil)))
    (pssd_cons (psd_asg (pd_op op_fdivD (pdv 2) (pdv 1)) (pgd_sub (pdv 0) pd_int))
    (pssd_one (psd_ret (pd_op op_modD (pdv 2) (pdv 1)))))) pssd_nil)
    (pssd_cons (psd_set (i := 3) sc_law_pick.nd rfl (Or.inl rfl) pd_int)
    (pssd_cons (psd_if (pt_cmpD op_ltD (pd_ix ix_G (pdv 0) pd_int (fun _ _ => rfl)) (pd_callB call_lenG rfl T.n_len bt_len (pad_cons (pd_ix ix_G (pdv 0) pd_int (fun _ _ => rfl)) pad_nil)) (nomark _)) (pssd_cons (psd_set (i := 3) sc_law_pick.nd rfl (Or.inl rfl) (pd_callT call_intG rfl T.n_int bt_int (pad_cons (pd_ix ix_G (pd_ix ix_G (pdv 0) pd_int (fun _ _ => rfl)) (pd_ix ix_G (pdv 0) pd_int (fun _ _ => rfl)) (fun _ _ => rfl)) pad_nil)))
    (pssd_cons (psd_asg (pd_op op_addD (pd_ix ix_G (pdv 0) pd_int (fun _ _ => rfl)) pd_int) (pgd_sub (pdv 0) pd_int))
    (pssd_cons (psd_if (pt_cmpD op_ltD (pdv 3) pd_int (nomark _)) (pssd_one (psd_set (i := 3) sc_law_pick.nd rfl (Or.inl rfl) (pd_op op_subD pd_int (pdv 3)))) pssd_nil)
    (pssd_one (psd_if (pt_cmpD op_geD (pdv 3) (pd_op op_powD pd_int pd_int) (nomark _)) (pssd_cons (psd_asg (pd_op op_fdivD (pdv 3) (pdv 1)) (pgd_sub (pdv 0) pd_int))
    (pssd_one (psd_ret (pd_op op_modD (pdv 3) (pdv 1))))) pssd_nil))))) pssd_nil)
    (pssd_cons (psd_set (i := 4) sc_law_pick.nd rfl (Or.inl rfl) (pd_op op_modD (pd_op op_mulD (pd_op op_addD (pd_op op_addD (pd_callT call_intG rfl T.n_int bt_int (pad_cons (pd_ix ix_G (pdv 0) pd_int (fun _ _ => rfl)) pad_nil)) (pd_op op_modD (pdv 3) pd_int)) pd_int) pd_int) pd_int))
    (pssd_cons (psd_asg (pd_op op_modD (pd_op op_addD (pd_op op_mulD (pdv 4) pd_int) pd_int) pd_int) (pgd_sub (pdv 0) pd_int))
    (pssd_one (psd_ret (pd_op op_modD (pd_op op_fdivD (pd_callT call_intG rfl T.n_int bt_int (pad_cons (pd_ix ix_G (pdv 0) pd_int (fun _ _ => rfl)) pad_nil)) pd_int) (pdv 1))))))))), h⟩
def t_law_same (K : PySem.W.Frag) (A : Adr) (n : Nat) : DS :=
  (dSeq (dIfS (dTru (dCB (isiG K) (dCons (dVar 1) (dCons (dC (.ty "tuple")) dNil)))) (dSeq (dIfS (dOr (dNot (dTru (dCB (isiG K) (dCons (dVar 0) (dCons (dC (.ty "tuple")) dNil))))) (dB (dOp neD (dCB lenG (dCons (dVar 0) dNil)) (dCB lenG (dCons (dVar 1) dNil))))) (dRet (dC (.bl false))) dNext)
    (dRet (dCB (allG fun bs => bs.all id) (dCons (dLc (dRng1 (dCons (dCB lenG (dCons (dVar 1) dNil)) dNil)) (fun d τ => τ.set 2 (some d)) dYes (dCall (sp_law_same n) [] (dCons (dOp ixG (dVar 0) (dVar 2)) (dCons (dOp ixG (dVar 1) (dVar 2)) dNil))) [2]) dNil)))) dNext)
    (dSeq (dIfS (dB (dOp (isG false) (dVar 1) (dC .non))) (dRet (dOp (isG false) (dVar 0) (dC .non))) dNext)
    (dSeq (dIfS (dTru (dCB (isiG K) (dCons (dVar 1) (dCons (dC (.ty "str")) dNil)))) (dRet (dAndV (dCB (isiG K) (dCons (dVar 0) (dCons (dC (.ty "str")) dNil))) (dOp eqD (dVar 0) (dVar 1)))) dNext)
    (dSeq (dIfS (dTru (dCB (isiG K) (dCons (dVar 1) (dCons (dC (.ty "bool")) dNil)))) (dRet (dAndV (dCB (isiG K) (dCons (dVar 0) (dCons (dC (.ty "bool")) dNil))) (dOp eqD (dVar 0) (dVar 1)))) dNext)
    (dRet (dAndV (dCB (isiG K) (dCons (dVar 0) (dCons (dC (.ty "int")) dNil))) (dAndV (dNotV (dCB (isiG K) (dCons (dVar 0) (dCons (dC (.ty "bool")) dNil)))) (dOp eqD (dVar 0) (dVar 1)))))))))
theorem ok_law_same {f : Addr} {fd : FuncData} {n : Nat} (T : Txt w K mg A) (G_law_same : FnD P w K mg base (0 + n) "_law_same" P_law_same [] (sp_law_same n)) (F : L2.Fun K "_law_same" "_law_same" s_law_same f fd) (sp : DSp) (len : ∀ ds M Q E, sp ds M Q E → ds.length = P_law_same.length) (h : ∀ ds M Q E, sp ds M Q E → t_law_same K A n (ends Q E) (dstart N_law_same ds) M) :
    FnOk P w K mg base (L2.CX P w) (0 + n + 1) f fd P_law_same (liftSp K sp) :=
  okD F sc_law_same len fun cdv A outer s H E hr tk => ⟨t_law_same K _ n, (pssd_cons (psd_if (ptd_tru (pd_callB call_isiG rfl T.n_isinstance bt_isinstance (pad_cons (pdv 1) (pad_cons (pd_ty rfl T.n_tuple bt_tuple) pad_nil)))) (pssd_cons (psd_if (PWD.pt (pwd_or (ptd_not (ptd_tru (pd_callB call_isiG rfl T.n_isinstance bt_isinstance (pad_cons (pdv 0) (pad_cons (pd_ty rfl T.n_tuple bt_tuple) pad_nil))))) (pwd_or1 (pt_cmpD (op_neG (u200 hr)) (pd_callB call_lenG rfl T.n_len bt_len (pad_cons (pdv 0) pad_nil)) (pd_callB call_lenG rfl T.n_len bt_len (pad_cons (pdv 1) pad_nil)) (nomark _))))) (pssd_one (psd_ret pd_bl)) pssd_nil)
    (pssd_one (psd_ret (pd_callB (call_allG rfl) rfl T.n_all bt_all (pad_cons (pd_lc (own := [("p", 2)]) (i := 2) rfl sc_law_same.nd (pid_rng1 rfl T.n_range (pad_cons (pd_callB call_lenG rfl T.n_len bt_len (pad_cons (pdv 1) pad_nil)) pad_nil)) (blkOk_by (N := N_law_same) (sc := defScope s_law_same) (by decide +kernel)) (by decide) (fun _ _ _ _ _ => pg_name (i := 2) sc_law_same.nd rfl (Or.inl rfl)) (fun _ _ _ _ _ => ptsd_nil) (fun _ _ _ _ _ => (pd_call G_law_same (hr.mono (by omega)) tk0 rfl (pad_cons (pd_ix ix_G (pdv 0) (pdv 2) (fun _ _ => rfl)) (pad_cons (pd_ix ix_G (pdv 1) (pdv 2) (fun _ _ => rfl)) pad_nil))))) pad_nil))))) pssd_nil)
    (pssd_cons (psd_if (pt_cmpD op_isG (pdv 1) pd_non (nomark _)) (pssd_one (psd_ret (pd_cmp op_isG (pdv 0) pd_non (nomark _)))) pssd_nil)
    (pssd_cons (psd_if (ptd_tru (pd_callB call_isiG rfl T.n_isinstance bt_isinstance (pad_cons (pdv 1) (pad_cons (pd_ty rfl T.n_str bt_str) pad_nil)))) (pssd_one (psd_ret (pd_and (pd_callB call_isiG rfl T.n_isinstance bt_isinstance (pad_cons (pdv 0) (pad_cons (pd_ty rfl T.n_str bt_str) pad_nil))) (pd_one (pd_cmp (op_eqG (u200 hr)) (pdv 0) (pdv 1) (nomark _)))))) pssd_nil)
    (pssd_cons (psd_if (ptd_tru (pd_callB call_isiG rfl T.n_isinstance bt_isinstance (pad_cons (pdv 1) (pad_cons (pd_ty rfl T.n_bool bt_bool) pad_nil)))) (pssd_one (psd_ret (pd_and (pd_callB call_isiG rfl T.n_isinstance bt_isinstance (pad_cons (pdv 0) (pad_cons (pd_ty rfl T.n_bool bt_bool) pad_nil))) (pd_one (pd_cmp (op_eqG (u200 hr)) (pdv 0) (pdv 1) (nomark _)))))) pssd_nil)
    (pssd_one (psd_ret (pd_and (pd_callB call_isiG rfl T.n_isinstance bt_isinstance (pad_cons (pdv 0) (pad_cons (pd_ty rfl T.n_int bt_int) pad_nil))) (pd_and (pd_not (pd_callB call_isiG rfl T.n_isinstance bt_isinstance (pad_cons (pdv 0) (pad_cons (pd_ty rfl T.n_bool bt_bool) pad_nil)))) (pd_one (pd_cmp (op_eqG (u200 hr)) (pdv 0) (pdv 1) (nomark _))))))))))), h⟩
def t_law_number (K : PySem.W.Frag) (A : Adr) : DS :=
  (dSeq (dAsg (dCall sp_law_pick [] (dCons (dVar 0) (dCons (dC (.int 12)) dNil))) (dName 1))
    (dSeq (dIfS (dB (dOp (oI0 fun i j => .bl (decide (i < j))) (dVar 1) (dC (.int 9)))) (dRet (dCall sp_law_pick [] (dCons (dVar 0) (dCons (dC (.int 5)) dNil)))) dNext)
    (dSeq (dIfS (dB (dOp (oI0 fun i j => .bl (decide (i < j))) (dVar 1) (dC (.int 11)))) (dRet (dCall sp_law_pick [] (dCons (dVar 0) (dCons (dC (.int 40)) dNil)))) dNext)
    (dRet (dOp (oI0 fun i j => .int (i - j)) (dC (.int 999999999)) (dCall sp_law_pick [] (dCons (dVar 0) (dCons (dOp ixG (dLst (dCons (dC (.int 2)) (dCons (dC (.int 1000000000)) dNil))) (dCall sp_law_pick [] (dCons (dVar 0) (dCons (dC (.int 2)) dNil)))) dNil))))))))
theorem ok_law_number {f : Addr} {fd : FuncData} (T : Txt w K mg A) (G_law_pick : FnD P w K mg base 1 "_law_pick" P_law_pick [] sp_law_pick) (F : L2.Fun K "_law_number" "_law_number" s_law_number f fd) (sp : DSp) (len : ∀ ds M Q E, sp ds M Q E → ds.length = P_law_number.length) (h : ∀ ds M Q E, sp ds M Q E → t_law_number K A (ends Q E) (dstart N_law_number ds) M) :
    FnOk P w K mg base (L2.CX P w) (1 + 1) f fd P_law_number (liftSp K sp) :=
  okD F sc_law_number len fun cdv A outer s H E hr tk => ⟨t_law_number K _, (pssd_cons (psd_set (i := 1) sc_law_number.nd rfl (Or.inl rfl) (pd_call G_law_pick (hr.mono (by omega)) tk rfl (pad_cons (pdv 0) (pad_cons pd_int pad_nil))))
    (pssd_cons (psd_if (pt_cmpD op_ltD (pdv 1) pd_int (nomark _)) (pssd_one (psd_ret (pd_call G_law_pick (hr.mono (by omega)) tk rfl (pad_cons (pdv 0) (pad_cons pd_int pad_nil))))) pssd_nil)
    (pssd_cons (psd_if (pt_cmpD op_ltD (pdv 1) pd_int (nomark _)) (pssd_one (psd_ret (pd_call G_law_pick (hr.mono (by omega)) tk rfl (pad_cons (pdv 0) (pad_cons pd_int pad_nil))))) pssd_nil)
    (pssd_one (psd_ret (pd_op op_subD pd_int (pd_call G_law_pick (hr.mono (by omega)) tk rfl (pad_cons (pdv 0) (pad_cons (pd_ix ix_G (pd_lst (pad_cons pd_int (pad_cons pd_int pad_nil))) (pd_call G_law_pick (hr.mono (by omega)) tk rfl (pad_cons (pdv 0) (pad_cons pd_int pad_nil))) (fun _ _ => rfl)) pad_nil))))))))), h⟩
def t_law_expression (K : PySem.W.Frag) (A : Adr) (n : Nat) : DS :=
  (dSeq (dAsg (dCall sp_law_pick [] (dCons (dVar 0) (dCons (dC (.int 14)) dNil))) (dName 5))
    (dSeq (dIfS (dOr (dB (dOp eqD (dVar 4) (dC (.int 0)))) (dB (dOp (oI0 fun i j => .bl (decide (i < j))) (dVar 5) (dC (.int 3))))) (dSeq (dIfS (dAnd (dB (dOp (oI0 fun i j => .bl (decide (j < i))) (dCB lenG (dCons (dVar 1) dNil)) (dC (.int 0)))) (dB (dOp (oI0 fun i j => .bl (decide (j < i))) (dCall sp_law_pick [] (dCons (dVar 0) (dCons (dC (.int 3)) dNil))) (dC (.int 0))))) (dRet (dOp ixG (dVar 1) (dCall sp_law_pick [] (dCons (dVar 0) (dCons (dCB lenG (dCons (dVar 1) dNil)) dNil))))) dNext)
    (dRet (dCall sp_law_number [] (dCons (dVar 0) dNil)))) dNext)
    (dSeq (dIfS (dB (dOp (oI0 fun i j => .bl (decide (i < j))) (dVar 5) (dC (.int 10)))) (dSeq (dAsg (dLst (dCons (dC (.str "plus")) (dCons (dC (.str "minus")) (dCons (dC (.str "times")) (dCons (dC (.str "div")) (dCons (dC (.str "rem")) (dCons (dC (.str "least")) (dCons (dC (.str "greatest")) (dCons (dC (.str "same")) (dCons (dC (.str "below")) dNil)))))))))) (dName 6))
    (dSeq (dAsg (dOp ixG (dVar 6) (dCall sp_law_pick [] (dCons (dVar 0) (dCons (dC (.int 9)) dNil)))) (dName 7))
    (dSeq (dAsg (dCall (sp_law_expression n) [] (dCons (dVar 0) (dCons (dVar 1) (dCons (dVar 2) (dCons (dVar 3) (dCons (dOp (oI0 fun i j => .int (i - j)) (dVar 4) (dC (.int 1))) dNil)))))) (dName 8))
    (dRet (dTup (dCons (dVar 7) (dCons (dVar 8) (dCons (dCall (sp_law_expression n) [] (dCons (dVar 0) (dCons (dVar 1) (dCons (dVar 2) (dCons (dVar 3) (dCons (dOp (oI0 fun i j => .int (i - j)) (dVar 4) (dC (.int 1))) dNil)))))) dNil)))))))) dNext)
    (dSeq (dAsg (dCall (sp_law_expression n) [] (dCons (dVar 0) (dCons (dVar 1) (dCons (dVar 2) (dCons (dVar 3) (dCons (dOp (oI0 fun i j => .int (i - j)) (dVar 4) (dC (.int 1))) dNil)))))) (dName 8))
    (dSeq (dIfS (dB (dOp eqD (dVar 5) (dC (.int 10)))) (dSeq (dAsg (dCall (sp_law_expression n) [] (dCons (dVar 0) (dCons (dVar 1) (dCons (dVar 2) (dCons (dVar 3) (dCons (dOp (oI0 fun i j => .int (i - j)) (dVar 4) (dC (.int 1))) dNil)))))) (dName 9))
    (dRet (dTup (dCons (dC (.str "pick")) (dCons (dVar 8) (dCons (dVar 9) (dCons (dCall (sp_law_expression n) [] (dCons (dVar 0) (dCons (dVar 1) (dCons (dVar 2) (dCons (dVar 3) (dCons (dOp (oI0 fun i j => .int (i - j)) (dVar 4) (dC (.int 1))) dNil)))))) dNil))))))) dNext)
    (dSeq (dIfS (dB (dOp eqD (dVar 5) (dC (.int 11)))) (dRet (dTup (dCons (dC (.str "table")) (dCons (dVar 8) (dCons (dCB tupG (dCons (dLc (dRng1 (dCons (dCall sp_law_pick [] (dCons (dVar 0) (dCons (dC (.int 4)) dNil))) dNil)) (fun d τ => τ.set 13 (some d)) dYes (dCall sp_law_number [] (dCons (dVar 0) dNil)) [13]) dNil)) (dCons (dCall sp_law_number [] (dCons (dVar 0) dNil)) dNil)))))) dNext)
    (dSeq (dIfS (dAnd (dB (dOp eqD (dVar 5) (dC (.int 12)))) (dB (dOp (oI0 fun i j => .bl (decide (j < i))) (dCB lenDict (dCons (dVar 3) dNil)) (dC (.int 0))))) (dSeq (dAsg (dOp ixG (dCB sortDictS (dCons (dVar 3) dNil)) (dCall sp_law_pick [] (dCons (dVar 0) (dCons (dCB lenDict (dCons (dVar 3) dNil)) dNil)))) (dName 10))
    (dSeq (dAsg (dLc (dRng1 (dCons (dOp (oI0 fun i j => .int (i - j)) (dCB lenG (dCons (dOp ixG (dDGet (dVar 3) (dVar 10)) (dC (.int 0))) dNil)) (dC (.int 1))) dNil)) (fun d τ => τ.set 13 (some d)) dYes (dCall (sp_law_expression n) [] (dCons (dVar 0) (dCons (dVar 1) (dCons (dVar 2) (dCons (dVar 3) (dCons (dC (.int 0)) dNil)))))) [13]) (dName 11))
    (dRet (dOp addD (dTup (dCons (dC (.str "call")) (dCons (dVar 10) (dCons (dVar 8) dNil)))) (dCB tupG (dCons (dVar 11) dNil)))))) dNext)
    (dSeq (dIfS (dB (dOp eqD (dCB lenG (dCons (dVar 2) dNil)) (dC (.int 0)))) (dRet (dVar 8)) dNext)
    (dSeq (dAsg (dOp ixG (dVar 2) (dCall sp_law_pick [] (dCons (dVar 0) (dCons (dCB lenG (dCons (dVar 2) dNil)) dNil)))) (dName 12))
    (dSeq (dAsg (dLc (dRng1 (dCons (dOp (oI0 fun i j => .int (i - j)) (dOp ixG (dVar 12) (dC (.int 1))) (dC (.int 1))) dNil)) (fun d τ => τ.set 13 (some d)) dYes (dCall (sp_law_expression n) [] (dCons (dVar 0) (dCons (dVar 1) (dCons (dVar 2) (dCons (dVar 3) (dCons (dC (.int 0)) dNil)))))) [13]) (dName 11))
    (dRet (dOp addD (dTup (dCons (dC (.str "look")) (dCons (dOp ixG (dVar 12) (dC (.int 0))) (dCons (dVar 8) dNil)))) (dCB tupG (dCons (dVar 11) dNil))))))))))))))
theorem ok_law_expression {f : Addr} {fd : FuncData} {n : Nat} (T : Txt w K mg A) (G_law_expression : FnD P w K mg base (2 + n) "_law_expression" P_law_expression [] (sp_law_expression n)) (G_law_number : FnD P w K mg base 2 "_law_number" P_law_number [] sp_law_number) (G_law_pick : FnD P w K mg base 1 "_law_pick" P_law_pick [] sp_law_pick) (F : L2.Fun K "_law_expression" "_law_expression" s_law_expression f fd) (sp : DSp) (len : ∀ ds M Q E, sp ds M Q E → ds.length = P_law_expression.length) (h : ∀ ds M Q E, sp ds M Q E → t_law_expression K A n (ends Q E) (dstart N_law_expression ds) M) :
    FnOk P w K mg base (L2.CX P w) (2 + n + 1) f fd P_law_expression (liftSp K sp) :=
  okD F sc_law_expression len fun cdv A outer s H E hr tk => ⟨t_law_expression K _ n, (pssd_cons (psd_set (i := 5) sc_law_expression.nd rfl (Or.inl rfl) (pd_call G_law_pick (hr.mono (by omega)) tk rfl (pad_cons (pdv 0) (pad_cons pd_int pad_nil))))
    (pssd_cons (psd_if (PWD.pt (pwd_or (pt_cmpD (op_eqG (u200 hr)) (pdv 4) pd_int (nomark _)) (pwd_or1 (pt_cmpD op_ltD (pdv 5) pd_int (nomark _))))) (pssd_cons (psd_if (PWD.pt (pwd_and (pt_cmpD op_gtD (pd_callB call_lenG rfl T.n_len bt_len (pad_cons (pdv 1) pad_nil)) pd_int (nomark _)) (pwd_and1 (pt_cmpD op_gtD (pd_call G_law_pick (hr.mono (by omega)) tk rfl (pad_cons (pdv 0) (pad_cons pd_int pad_nil))) pd_int (nomark _))))) (pssd_one (psd_ret (pd_ix ix_G (pdv 1) (pd_call G_law_pick (hr.mono (by omega)) tk rfl (pad_cons (pdv 0) (pad_cons (pd_callB call_lenG rfl T.n_len bt_len (pad_cons (pdv 1) pad_nil)) pad_nil))) (fun _ _ => rfl)))) pssd_nil)
    (pssd_one (psd_ret (pd_call G_law_number (hr.mono (by omega)) tk rfl (pad_cons (pdv 0) pad_nil))))) pssd_nil)
    (pssd_cons (psd_if (pt_cmpD op_ltD (pdv 5) pd_int (nomark _)) (pssd_cons (psd_set (i := 6) sc_law_expression.nd rfl (Or.inl rfl) (pd_lst (pad_cons pd_str (pad_cons pd_str (pad_cons pd_str (pad_cons pd_str (pad_cons pd_str (pad_cons pd_str (pad_cons pd_str (pad_cons pd_str (pad_cons pd_str pad_nil)))))))))))
    (pssd_cons (psd_set (i := 7) sc_law_expression.nd rfl (Or.inl rfl) (pd_ix ix_G (pdv 6) (pd_call G_law_pick (hr.mono (by omega)) tk rfl (pad_cons (pdv 0) (pad_cons pd_int pad_nil))) (fun _ _ => rfl)))
    (pssd_cons (psd_set (i := 8) sc_law_expression.nd rfl (Or.inl rfl) (pd_call G_law_expression (hr.mono (by omega)) tk rfl (pad_cons (pdv 0) (pad_cons (pdv 1) (pad_cons (pdv 2) (pad_cons (pdv 3) (pad_cons (pd_op op_subD (pdv 4) pd_int) pad_nil)))))))
    (pssd_one (psd_ret (pd_tup (pad_cons (pdv 7) (pad_cons (pdv 8) (pad_cons (pd_call G_law_expression (hr.mono (by omega)) tk rfl (pad_cons (pdv 0) (pad_cons (pdv 1) (pad_cons (pdv 2) (pad_cons (pdv 3) (pad_cons (pd_op op_subD (pdv 4) pd_int) pad_nil)))))) pad_nil))))))))) pssd_nil)
    (pssd_cons (psd_set (i := 8) sc_law_expression.nd rfl (Or.inl rfl) (pd_call G_law_expression (hr.mono (by omega)) tk rfl (pad_cons (pdv 0) (pad_cons (pdv 1) (pad_cons (pdv 2) (pad_cons (pdv 3) (pad_cons (pd_op op_subD (pdv 4) pd_int) pad_nil)))))))
    (pssd_cons (psd_if (pt_cmpD (op_eqG (u200 hr)) (pdv 5) pd_int (nomark _)) (pssd_cons (psd_set (i := 9) sc_law_expression.nd rfl (Or.inl rfl) (pd_call G_law_expression (hr.mono (by omega)) tk rfl (pad_cons (pdv 0) (pad_cons (pdv 1) (pad_cons (pdv 2) (pad_cons (pdv 3) (pad_cons (pd_op op_subD (pdv 4) pd_int) pad_nil)))))))
    (pssd_one (psd_ret (pd_tup (pad_cons pd_str (pad_cons (pdv 8) (pad_cons (pdv 9) (pad_cons (pd_call G_law_expression (hr.mono (by omega)) tk rfl (pad_cons (pdv 0) (pad_cons (pdv 1) (pad_cons (pdv 2) (pad_cons (pdv 3) (pad_cons (pd_op op_subD (pdv 4) pd_int) pad_nil)))))) pad_nil)))))))) pssd_nil)
    (pssd_cons (psd_if (pt_cmpD (op_eqG (u200 hr)) (pdv 5) pd_int (nomark _)) (pssd_one (psd_ret (pd_tup (pad_cons pd_str (pad_cons (pdv 8) (pad_cons (pd_callT call_tupG rfl T.n_tuple bt_tuple (pad_cons (pd_lc (own := [("k", 13)]) (i := 13) rfl sc_law_expression.nd (pid_rng1 rfl T.n_range (pad_cons (pd_call G_law_pick (hr.mono (by omega)) tk rfl (pad_cons (pdv 0) (pad_cons pd_int pad_nil))) pad_nil)) (blkOk_by (N := N_law_expression) (sc := defScope s_law_expression) (by decide +kernel)) (by decide) (fun _ _ _ _ _ => pg_name (i := 13) sc_law_expression.nd rfl (Or.inl rfl)) (fun _ _ _ _ _ => ptsd_nil) (fun _ _ _ _ _ => (pd_call G_law_number (hr.mono (by omega)) tk0 rfl (pad_cons (pdv 0) pad_nil)))) pad_nil)) (pad_cons (pd_call G_law_number (hr.mono (by omega)) tk rfl (pad_cons (pdv 0) pad_nil)) pad_nil))))))) pssd_nil)
    (pssd_cons (psd_if (PWD.pt (pwd_and (pt_cmpD (op_eqG (u200 hr)) (pdv 5) pd_int (nomark _)) (pwd_and1 (pt_cmpD op_gtD (pd_callB call_lenDict rfl T.n_len bt_len (pad_cons (pdv 3) pad_nil)) pd_int (nomark _))))) (pssd_cons (psd_set (i := 10) sc_law_expression.nd rfl (Or.inl rfl) (pd_ix ix_G (pd_callB (call_sortDictS rfl) rfl T.n_sorted bt_sorted (pad_cons (pdv 3) pad_nil)) (pd_call G_law_pick (hr.mono (by omega)) tk rfl (pad_cons (pdv 0) (pad_cons (pd_callB call_lenDict rfl T.n_len bt_len (pad_cons (pdv 3) pad_nil)) pad_nil))) (fun _ _ => rfl)))
    (pssd_cons (psd_setLc (own := [("k", 13)]) (i := 13) (j := 11) rfl sc_law_expression.nd rfl rfl (sw_true rfl rfl rfl (by decide +kernel)) (pid_rng1 rfl T.n_range (pad_cons (pd_op op_subD (pd_callB call_lenG rfl T.n_len bt_len (pad_cons (pd_ix ix_G (pd_dget (u1 hr) (pdv 3) (pdv 10) (fun _ _ => rfl)) pd_int (fun _ _ => rfl)) pad_nil)) pd_int) pad_nil)) (blkOk_by (N := N_law_expression) (sc := defScope s_law_expression) (by decide +kernel)) (by decide) (fun _ _ _ _ _ => pg_name (i := 13) sc_law_expression.nd rfl (Or.inl rfl)) (fun _ _ _ _ _ => ptsd_nil) (fun _ _ _ _ _ => (pd_call G_law_expression (hr.mono (by omega)) tk0 rfl (pad_cons (pdv 0) (pad_cons (pdv 1) (pad_cons (pdv 2) (pad_cons (pdv 3) (pad_cons pd_int pad_nil))))))))
    (pssd_one (psd_ret (pd_op op_addD (pd_tup (pad_cons pd_str (pad_cons (pdv 10) (pad_cons (pdv 8) pad_nil)))) (pd_callT call_tupG rfl T.n_tuple bt_tuple (pad_cons (pdv 11) pad_nil))))))) pssd_nil)
    (pssd_cons (psd_if (pt_cmpD (op_eqG (u200 hr)) (pd_callB call_lenG rfl T.n_len bt_len (pad_cons (pdv 2) pad_nil)) pd_int (nomark _)) (pssd_one (psd_ret (pdv 8))) pssd_nil)
    (pssd_cons (psd_set (i := 12) sc_law_expression.nd rfl (Or.inl rfl) (pd_ix ix_G (pdv 2) (pd_call G_law_pick (hr.mono (by omega)) tk rfl (pad_cons (pdv 0) (pad_cons (pd_callB call_lenG rfl T.n_len bt_len (pad_cons (pdv 2) pad_nil)) pad_nil))) (fun _ _ => rfl)))
    (pssd_cons (psd_setLc (own := [("k", 13)]) (i := 13) (j := 11) rfl sc_law_expression.nd rfl rfl (sw_true rfl rfl rfl (by decide +kernel)) (pid_rng1 rfl T.n_range (pad_cons (pd_op op_subD (pd_ix ix_G (pdv 12) pd_int (fun _ _ => rfl)) pd_int) pad_nil)) (blkOk_by (N := N_law_expression) (sc := defScope s_law_expression) (by decide +kernel)) (by decide) (fun _ _ _ _ _ => pg_name (i := 13) sc_law_expression.nd rfl (Or.inl rfl)) (fun _ _ _ _ _ => ptsd_nil) (fun _ _ _ _ _ => (pd_call G_law_expression (hr.mono (by omega)) tk0 rfl (pad_cons (pdv 0) (pad_cons (pdv 1) (pad_cons (pdv 2) (pad_cons (pdv 3) (pad_cons pd_int pad_nil))))))))
    (pssd_one (psd_ret (pd_op op_addD (pd_tup (pad_cons pd_str (pad_cons (pd_ix ix_G (pdv 12) pd_int (fun _ _ => rfl)) (pad_cons (pdv 8) pad_nil)))) (pd_callT call_tupG rfl T.n_tuple bt_tuple (pad_cons (pdv 11) pad_nil))))))))))))))), h⟩
def t_law_new (K : PySem.W.Frag) (A : Adr) : DS :=
  (dSeq (dAsg (dC (.str "abcdefghijklmnopqrstuvwxyz")) (dName 2))
    (dSeq (dAsg (dLst (dCons (dC (.str "plus")) (dCons (dC (.str "is")) (dCons (dC (.str "call")) (dCons (dC (.str "look")) (dCons (dC (.str "table")) (dCons (dC (.str "book")) (dCons (dC (.str "all")) (dCons (dC (.str "some")) (dCons (dC (.str "law")) (dCons (dC (.str "use")) dNil))))))))))) (dName 3))
    (dSeq (dAsg (dCall sp_law_pick [] (dCons (dVar 0) (dCons (dC (.int 4)) dNil))) (dName 4))
    (dSeq (dAsg (dOp ixG (dVar 2) (dCall sp_law_pick [] (dCons (dVar 0) (dCons (dC (.int 5)) dNil)))) (dName 5))
    (dSeq (dIfS (dB (dOp eqD (dVar 4) (dC (.int 2)))) (dAsg (dBM "str" joinM (dC (.str "")) (dCons (dLc (dRng1 (dCons (dOp addD (dC (.int 1)) (dCall sp_law_pick [] (dCons (dVar 0) (dCons (dC (.int 12)) dNil)))) dNil)) (fun d τ => τ.set 6 (some d)) dYes (dOp ixG (dVar 2) (dCall sp_law_pick [] (dCons (dVar 0) (dCons (dC (.int 26)) dNil)))) [6]) dNil)) (dName 5)) dNext)
    (dSeq (dIfS (dB (dOp eqD (dVar 4) (dC (.int 3)))) (dAsg (dOp ixG (dVar 3) (dCall sp_law_pick [] (dCons (dVar 0) (dCons (dC (.int 10)) dNil)))) (dName 5)) dNext)
    (dSeq (dFor (dRng1 (dCons (dC (.int 100)) dNil)) (dName 6) (dSeq (dIfS (dB (dOp (inG true) (dVar 5) (dVar 1))) dBreak dNext)
    (dAsg (dOp addD (dOp ixG (dVar 2) (dOp (oI CDivW fun i j => .int (i / j)) (dVar 6) (dC (.int 26)))) (dOp ixG (dVar 2) (dOp (oI (fun _ j => 0 < j) fun i j => .int (i % j)) (dCB intG (dCons (dVar 6) dNil)) (dC (.int 26))))) (dName 5))))
    (dRet (dVar 5)))))))))
theorem ok_law_new {f : Addr} {fd : FuncData} (T : Txt w K mg A) (G_law_pick : FnD P w K mg base 1 "_law_pick" P_law_pick [] sp_law_pick) (F : L2.Fun K "_law_new" "_law_new" s_law_new f fd) (sp : DSp) (len : ∀ ds M Q E, sp ds M Q E → ds.length = P_law_new.length) (h : ∀ ds M Q E, sp ds M Q E → t_law_new K A (ends Q E) (dstart N_law_new ds) M) :
    FnOk P w K mg base (L2.CX P w) (1 + 1) f fd P_law_new (liftSp K sp) :=
  okD F sc_law_new len fun cdv A outer s H E hr tk => ⟨t_law_new K _, (pssd_cons (psd_set (i := 2) sc_law_new.nd rfl (Or.inr rfl) pd_str)
    (pssd_cons (psd_set (i := 3) sc_law_new.nd rfl (Or.inl rfl) (pd_lst (pad_cons pd_str (pad_cons pd_str (pad_cons pd_str (pad_cons pd_str (pad_cons pd_str (pad_cons pd_str (pad_cons pd_str (pad_cons pd_str (pad_cons pd_str (pad_cons pd_str pad_nil))))))))))))
    (pssd_cons (psd_set (i := 4) sc_law_new.nd rfl (Or.inl rfl) (pd_call G_law_pick (hr.mono (by omega)) tk rfl (pad_cons (pdv 0) (pad_cons pd_int pad_nil))))
    (pssd_cons (psd_set (i := 5) sc_law_new.nd rfl (Or.inl rfl) (pd_ix ix_G (pdv 2) (pd_call G_law_pick (hr.mono (by omega)) tk rfl (pad_cons (pdv 0) (pad_cons pd_int pad_nil))) (fun _ _ => rfl)))
    (pssd_cons (psd_if (pt_cmpD (op_eqG (u200 hr)) (pdv 4) pd_int (nomark _)) (pssd_one (psd_set (i := 5) sc_law_new.nd rfl (Or.inl rfl) (pd_bm PySem.F.plainAttrs_str PySem.F.slot_str_join PySem.F.type_str_join mt_joinM pd_str (pad_cons (pd_lc (own := [("k", 6)]) (i := 6) rfl sc_law_new.nd (pid_rng1 rfl T.n_range (pad_cons (pd_op op_addD pd_int (pd_call G_law_pick (hr.mono (by omega)) tk rfl (pad_cons (pdv 0) (pad_cons pd_int pad_nil)))) pad_nil)) (blkOk_by (N := N_law_new) (sc := defScope s_law_new) (by decide +kernel)) (by decide) (fun _ _ _ _ _ => pg_name (i := 6) sc_law_new.nd rfl (Or.inl rfl)) (fun _ _ _ _ _ => ptsd_nil) (fun _ _ _ _ _ => (pd_ix ix_G (pdv 2) (pd_call G_law_pick (hr.mono (by omega)) tk0 rfl (pad_cons (pdv 0) (pad_cons pd_int pad_nil))) (fun _ _ => rfl)))) pad_nil)))) pssd_nil)
    (pssd_cons (psd_if (pt_cmpD (op_eqG (u200 hr)) (pdv 4) pd_int (nomark _)) (pssd_one (psd_set (i := 5) sc_law_new.nd rfl (Or.inl rfl) (pd_ix ix_G (pdv 3) (pd_call G_law_pick (hr.mono (by omega)) tk rfl (pad_cons (pdv 0) (pad_cons pd_int pad_nil))) (fun _ _ => rfl)))) pssd_nil)
    (pssd_cons (psd_for (passes_of rfl) rfl (pid_rng1 rfl T.n_range (pad_cons pd_int pad_nil)) (pgd_name (pg_name (i := 6) sc_law_new.nd rfl (Or.inl rfl))) (pssd_cons (psd_if (pt_cmpD op_notInG (pdv 5) (pdv 1) (by with_unfolding_all rfl)) (pssd_one psd_break) pssd_nil)
    (pssd_one (psd_set (i := 5) sc_law_new.nd rfl (Or.inl rfl) (pd_op op_addD (pd_ix ix_G (pdv 2) (pd_op op_fdivD (pdv 6) pd_int) (fun _ _ => rfl)) (pd_ix ix_G (pdv 2) (pd_op op_modD (pd_callT call_intG rfl T.n_int bt_int (pad_cons (pdv 6) pad_nil)) pd_int) (fun _ _ => rfl)))))))
    (pssd_one (psd_ret (pdv 5)))))))))), h⟩
def t_law_names (K : PySem.W.Frag) (A : Adr) : DS :=
  (dSeq (dAsg (dLst dNil) (dName 3))
    (dSeq (dFor (dRng1 (dCons (dVar 2) dNil)) (dName 4) (dDrop (dBM "list" appendM (dVar 3) (dCons (dCall sp_law_new [] (dCons (dVar 0) (dCons (dOp addD (dVar 1) (dVar 3)) dNil))) dNil))))
    (dRet (dVar 3))))
theorem ok_law_names {f : Addr} {fd : FuncData} (T : Txt w K mg A) (G_law_new : FnD P w K mg base 2 "_law_new" P_law_new [] sp_law_new) (F : L2.Fun K "_law_names" "_law_names" s_law_names f fd) (sp : DSp) (len : ∀ ds M Q E, sp ds M Q E → ds.length = P_law_names.length) (h : ∀ ds M Q E, sp ds M Q E → t_law_names K A (ends Q E) (dstart N_law_names ds) M) :
    FnOk P w K mg base (L2.CX P w) (2 + 1) f fd P_law_names (liftSp K sp) :=
  okD F sc_law_names len fun cdv A outer s H E hr tk => ⟨t_law_names K _, (pssd_cons (psd_set (i := 3) sc_law_names.nd rfl (Or.inl rfl) (pd_lst pad_nil))
    (pssd_cons (psd_for (passes_of rfl) rfl (pid_rng1 rfl T.n_range (pad_cons (pdv 2) pad_nil)) (pgd_name (pg_name (i := 4) sc_law_names.nd rfl (Or.inl rfl))) (pssd_one (psd_expr (pd_bm PySem.F.plainAttrs_list PySem.F.slot_list_append PySem.F.type_list_append mt_appendM (pdv 3) (pad_cons (pd_call G_law_new (hr.mono (by omega)) tk rfl (pad_cons (pdv 0) (pad_cons (pd_op op_addD (pdv 1) (pdv 3)) pad_nil))) pad_nil)))))
    (pssd_one (psd_ret (pdv 3))))), h⟩
def t_law_with (K : PySem.W.Frag) (A : Adr) : DS :=
  (dSeq (dAsg (dBM "dict" copyM (dVar 0) dNil) (dName 3))
    (dSeq (dAsg (dVar 2) (dGSubD (dVar 3) (dVar 1)))
    (dRet (dVar 3))))
theorem ok_law_with {f : Addr} {fd : FuncData} (T : Txt w K mg A)  (F : L2.Fun K "_law_with" "_law_with" s_law_with f fd) (sp : DSp) (len : ∀ ds M Q E, sp ds M Q E → ds.length = P_law_with.length) (h : ∀ ds M Q E, sp ds M Q E → t_law_with K A (ends Q E) (dstart N_law_with ds) M) :
    FnOk P w K mg base (L2.CX P w) (0 + 1) f fd P_law_with (liftSp K sp) :=
  okD F sc_law_with len fun cdv A outer s H E hr tk => ⟨t_law_with K _, (pssd_cons (psd_set (i := 3) sc_law_with.nd rfl (Or.inl rfl) (pd_bm0 PySem.F.plainAttrs_dict PySem.F.slot_dict_copy PySem.F.type_dict_copy mt_copyM (pdv 0)))
    (pssd_cons (psd_asg (pdv 2) (pgd_subD (u1 hr) (pdv 3) (pdv 1)))
    (pssd_one (psd_ret (pdv 3))))), h⟩
def t_law_met (K : PySem.W.Frag) (A : Adr) (n : Nat) : DS :=
  (dSeq (dAsg (dCall sp_law_pick [] (dCons (dVar 0) (dCons (dC (.int 12)) dNil))) (dName 5))
    (dSeq (dIfS (dOr (dB (dOp eqD (dVar 3) (dC (.int 0)))) (dB (dOp (oI0 fun i j => .bl (decide (i < j))) (dVar 5) (dC (.int 2))))) (dSeq (dLock (dAsg (dLc (dKeys (dVar 1)) (fun d τ => τ.set 13 (some d)) (dB (dOp eqD (dDGet (dVar 1) (dVar 13)) (dC (.int 0)))) (dVar 13) [13]) (dName 6)))
    (dSeq (dLock (dAsg (dLc (dKeys (dVar 1)) (fun d τ => τ.set 13 (some d)) (dB (dOp (oI0 fun i j => .bl (decide (j < i))) (dDGet (dVar 1) (dVar 13)) (dC (.int 0)))) (dTup (dCons (dVar 13) (dCons (dDGet (dVar 1) (dVar 13)) dNil))) [13]) (dName 7)))
    (dSeq (dAsg (dCall (sp_law_expression 4) [] (dCons (dVar 0) (dCons (dVar 6) (dCons (dVar 7) (dCons (dVar 2) (dCons (dCall sp_law_pick [] (dCons (dVar 0) (dCons (dC (.int 3)) dNil))) dNil)))))) (dName 8))
    (dRet (dTup (dCons (dC (.str "is")) (dCons (dVar 8) (dCons (dCall (sp_law_expression 4) [] (dCons (dVar 0) (dCons (dVar 6) (dCons (dVar 7) (dCons (dVar 2) (dCons (dCall sp_law_pick [] (dCons (dVar 0) (dCons (dC (.int 3)) dNil))) dNil)))))) dNil)))))))) dNext)
    (dSeq (dIfS (dAnd (dB (dOp (oI0 fun i j => .bl (decide (i < j))) (dVar 5) (dC (.int 5)))) (dB (dOp (oI0 fun i j => .bl (decide (j < i))) (dOp ixG (dVar 4) (dC (.int 0))) (dC (.int 0))))) (dSeq (dAsg (dOp (oI0 fun i j => .int (i - j)) (dOp ixG (dVar 4) (dC (.int 0))) (dC (.int 1))) (dGSub (dVar 4) (dC (.int 0))))
    (dSeq (dAsg (dCall (sp_law_met n) [] (dCons (dVar 0) (dCons (dVar 1) (dCons (dVar 2) (dCons (dOp (oI0 fun i j => .int (i - j)) (dVar 3) (dC (.int 1))) (dCons (dVar 4) dNil)))))) (dName 8))
    (dRet (dTup (dCons (dOp ixG (dLst (dCons (dC (.str "and")) (dCons (dC (.str "if")) dNil))) (dCall sp_law_pick [] (dCons (dVar 0) (dCons (dC (.int 2)) dNil)))) (dCons (dVar 8) (dCons (dCall (sp_law_met n) [] (dCons (dVar 0) (dCons (dVar 1) (dCons (dVar 2) (dCons (dOp (oI0 fun i j => .int (i - j)) (dVar 3) (dC (.int 1))) (dCons (dVar 4) dNil)))))) dNil))))))) dNext)
    (dSeq (dAsg (dOp ixG (dLst (dCons (dC (.str "all")) (dCons (dC (.str "some")) (dCons (dC (.str "allbelow")) (dCons (dC (.str "somebelow")) (dCons (dC (.str "allrow")) (dCons (dC (.str "somerow")) dNil))))))) (dCall sp_law_pick [] (dCons (dVar 0) (dCons (dC (.int 6)) dNil)))) (dName 9))
    (dSeq (dAsg (dOp ixG (dCB lstDict (dCons (dVar 1) dNil)) (dCall sp_law_pick [] (dCons (dVar 0) (dCons (dCB lenDict (dCons (dVar 1) dNil)) dNil)))) (dName 10))
    (dSeq (dIfS (dB (dOp eqD (dCall sp_law_pick [] (dCons (dVar 0) (dCons (dC (.int 6)) dNil))) (dC (.int 0)))) (dAsg (dCall sp_law_new [] (dCons (dVar 0) (dCons (dLst dNil) dNil))) (dName 10)) dNext)
    (dSeq (dAsg (dTup (dCons (dVar 9) (dCons (dVar 10) dNil))) (dName 11))
    (dSeq (dIfS (dB (dOp (inG false) (dVar 9) (dLst (dCons (dC (.str "allbelow")) (dCons (dC (.str "somebelow")) dNil))))) (dAsg (dTup (dCons (dVar 9) (dCons (dVar 10) (dCons (dOp addD (dC (.int 1)) (dCall sp_law_pick [] (dCons (dVar 0) (dCons (dC (.int 12)) dNil)))) dNil)))) (dName 11)) dNext)
    (dSeq (dAsg (dCall sp_law_with [] (dCons (dVar 1) (dCons (dVar 10) (dCons (dCB intG (dCons (dOp (inG false) (dVar 9) (dLst (dCons (dC (.str "allrow")) (dCons (dC (.str "somerow")) dNil)))) dNil)) dNil)))) (dName 12))
    (dRet (dOp addD (dVar 11) (dTup (dCons (dCall (sp_law_met n) [] (dCons (dVar 0) (dCons (dVar 12) (dCons (dVar 2) (dCons (dOp (oI0 fun i j => .int (i - j)) (dVar 3) (dC (.int 1))) (dCons (dVar 4) dNil)))))) dNil)))))))))))))
theorem ok_law_met {f : Addr} {fd : FuncData} {n : Nat} (T : Txt w K mg A) (G_law_expression : FnD P w K mg base 6 "_law_expression" P_law_expression [] (sp_law_expression 4)) (G_law_met : FnD P w K mg base (6 + n) "_law_met" P_law_met [] (sp_law_met n)) (G_law_new : FnD P w K mg base 2 "_law_new" P_law_new [] sp_law_new) (G_law_pick : FnD P w K mg base 1 "_law_pick" P_law_pick [] sp_law_pick) (G_law_with : FnD P w K mg base 1 "_law_with" P_law_with [] sp_law_with) (F : L2.Fun K "_law_met" "_law_met" s_law_met f fd) (sp : DSp) (len : ∀ ds M Q E, sp ds M Q E → ds.length = P_law_met.length) (h : ∀ ds M Q E, sp ds M Q E → t_law_met K A n (ends Q E) (dstart N_law_met ds) M) :
    FnOk P w K mg base (L2.CX P w) (6 + n + 1) f fd P_law_met (liftSp K sp) :=
  okD F sc_law_met len fun cdv A outer s H E hr tk => ⟨t_law_met K _ n, (pssd_cons (psd_set (i := 5) sc_law_met.nd rfl (Or.inl rfl) (pd_call G_law_pick (hr.mono (by omega)) tk rfl (pad_cons (pdv 0) (pad_cons pd_int pad_nil))))
    (pssd_cons (psd_if (PWD.pt (pwd_or (pt_cmpD (op_eqG (u200 hr)) (pdv 3) pd_int (nomark _)) (pwd_or1 (pt_cmpD op_ltD (pdv 5) pd_int (nomark _))))) (pssd_cons (psd_lock (psd_setLc (own := [("name", 13)]) (i := 13) (j := 6) rfl sc_law_met.nd rfl rfl (sw_true rfl rfl rfl (by decide +kernel)) (pid_keys (pdv 1)) (blkOk_by (N := N_law_met) (sc := defScope s_law_met) (by decide +kernel)) (by decide) (fun _ _ _ _ _ => pg_name (i := 13) sc_law_met.nd rfl (Or.inl rfl)) (fun _ _ _ _ _ => (ptsd_one (pt_cmpD (op_eqG (u200 hr)) (pd_dget (u1 hr) (pdv 1) (pdv 13) (fun _ _ => rfl)) pd_int (nomark _)))) (fun _ _ _ _ _ => (pdv 13))))
    (pssd_cons (psd_lock (psd_setLc (own := [("name", 13)]) (i := 13) (j := 7) rfl sc_law_met.nd rfl rfl (sw_true rfl rfl rfl (by decide +kernel)) (pid_keys (pdv 1)) (blkOk_by (N := N_law_met) (sc := defScope s_law_met) (by decide +kernel)) (by decide) (fun _ _ _ _ _ => pg_name (i := 13) sc_law_met.nd rfl (Or.inl rfl)) (fun _ _ _ _ _ => (ptsd_one (pt_cmpD op_gtD (pd_dget (u1 hr) (pdv 1) (pdv 13) (fun _ _ => rfl)) pd_int (nomark _)))) (fun _ _ _ _ _ => (pd_tup (pad_cons (pdv 13) (pad_cons (pd_dget (u1 hr) (pdv 1) (pdv 13) (fun _ _ => rfl)) pad_nil))))))
    (pssd_cons (psd_set (i := 8) sc_law_met.nd rfl (Or.inl rfl) (pd_call G_law_expression (hr.mono (by omega)) tk rfl (pad_cons (pdv 0) (pad_cons (pdv 6) (pad_cons (pdv 7) (pad_cons (pdv 2) (pad_cons (pd_call G_law_pick (hr.mono (by omega)) tk rfl (pad_cons (pdv 0) (pad_cons pd_int pad_nil))) pad_nil)))))))
    (pssd_one (psd_ret (pd_tup (pad_cons pd_str (pad_cons (pdv 8) (pad_cons (pd_call G_law_expression (hr.mono (by omega)) tk rfl (pad_cons (pdv 0) (pad_cons (pdv 6) (pad_cons (pdv 7) (pad_cons (pdv 2) (pad_cons (pd_call G_law_pick (hr.mono (by omega)) tk rfl (pad_cons (pdv 0) (pad_cons pd_int pad_nil))) pad_nil)))))) pad_nil))))))))) pssd_nil)
    (pssd_cons (psd_if (PWD.pt (pwd_and (pt_cmpD op_ltD (pdv 5) pd_int (nomark _)) (pwd_and1 (pt_cmpD op_gtD (pd_ix ix_G (pdv 4) pd_int (fun _ _ => rfl)) pd_int (nomark _))))) (pssd_cons (psd_asg (pd_op op_subD (pd_ix ix_G (pdv 4) pd_int (fun _ _ => rfl)) pd_int) (pgd_sub (pdv 4) pd_int))
    (pssd_cons (psd_set (i := 8) sc_law_met.nd rfl (Or.inl rfl) (pd_call G_law_met (hr.mono (by omega)) tk rfl (pad_cons (pdv 0) (pad_cons (pdv 1) (pad_cons (pdv 2) (pad_cons (pd_op op_subD (pdv 3) pd_int) (pad_cons (pdv 4) pad_nil)))))))
    (pssd_one (psd_ret (pd_tup (pad_cons (pd_ix ix_G (pd_lst (pad_cons pd_str (pad_cons pd_str pad_nil))) (pd_call G_law_pick (hr.mono (by omega)) tk rfl (pad_cons (pdv 0) (pad_cons pd_int pad_nil))) (fun _ _ => rfl)) (pad_cons (pdv 8) (pad_cons (pd_call G_law_met (hr.mono (by omega)) tk rfl (pad_cons (pdv 0) (pad_cons (pdv 1) (pad_cons (pdv 2) (pad_cons (pd_op op_subD (pdv 3) pd_int) (pad_cons (pdv 4) pad_nil)))))) pad_nil)))))))) pssd_nil)
    (pssd_cons (psd_set (i := 9) sc_law_met.nd rfl (Or.inl rfl) (pd_ix ix_G (pd_lst (pad_cons pd_str (pad_cons pd_str (pad_cons pd_str (pad_cons pd_str (pad_cons pd_str (pad_cons pd_str pad_nil))))))) (pd_call G_law_pick (hr.mono (by omega)) tk rfl (pad_cons (pdv 0) (pad_cons pd_int pad_nil))) (fun _ _ => rfl)))
    (pssd_cons (psd_set (i := 10) sc_law_met.nd rfl (Or.inl rfl) (pd_ix ix_G (pd_callT (call_lstDict rfl) rfl T.n_list bt_list (pad_cons (pdv 1) pad_nil)) (pd_call G_law_pick (hr.mono (by omega)) tk rfl (pad_cons (pdv 0) (pad_cons (pd_callB call_lenDict rfl T.n_len bt_len (pad_cons (pdv 1) pad_nil)) pad_nil))) (fun _ _ => rfl)))
    (pssd_cons (psd_if (pt_cmpD (op_eqG (u200 hr)) (pd_call G_law_pick (hr.mono (by omega)) tk rfl (pad_cons (pdv 0) (pad_cons pd_int pad_nil))) pd_int (nomark _)) (pssd_one (psd_set (i := 10) sc_law_met.nd rfl (Or.inl rfl) (pd_call G_law_new (hr.mono (by omega)) tk rfl (pad_cons (pdv 0) (pad_cons (pd_lst pad_nil) pad_nil))))) pssd_nil)
    (pssd_cons (psd_set (i := 11) sc_law_met.nd rfl (Or.inl rfl) (pd_tup (pad_cons (pdv 9) (pad_cons (pdv 10) pad_nil))))
    (pssd_cons (psd_if (pt_cmpD op_inG (pdv 9) (pd_lst (pad_cons pd_str (pad_cons pd_str pad_nil))) (by with_unfolding_all rfl)) (pssd_one (psd_set (i := 11) sc_law_met.nd rfl (Or.inl rfl) (pd_tup (pad_cons (pdv 9) (pad_cons (pdv 10) (pad_cons (pd_op op_addD pd_int (pd_call G_law_pick (hr.mono (by omega)) tk rfl (pad_cons (pdv 0) (pad_cons pd_int pad_nil)))) pad_nil)))))) pssd_nil)
    (pssd_cons (psd_set (i := 12) sc_law_met.nd rfl (Or.inl rfl) (pd_call G_law_with (hr.mono (by omega)) tk rfl (pad_cons (pdv 1) (pad_cons (pdv 10) (pad_cons (pd_callT call_intG rfl T.n_int bt_int (pad_cons (pd_cmp op_inG (pdv 9) (pd_lst (pad_cons pd_str (pad_cons pd_str pad_nil))) (by with_unfolding_all rfl)) pad_nil)) pad_nil)))))
    (pssd_one (psd_ret (pd_op op_addD (pdv 11) (pd_tup (pad_cons (pd_call G_law_met (hr.mono (by omega)) tk rfl (pad_cons (pdv 0) (pad_cons (pdv 12) (pad_cons (pdv 2) (pad_cons (pd_op op_subD (pdv 3) pd_int) (pad_cons (pdv 4) pad_nil)))))) pad_nil)))))))))))))), h⟩
def t_law_items (K : PySem.W.Frag) (A : Adr) : DS :=
  (dSeq (dIfS (dB (dOp eqD (dOp ixG (dVar 0) (dC (.int 0))) (dC (.str "table")))) (dRet (dCB lstG (dCons (dSl (dVar 0) (dPart (dC (.int 1))) (dPart (dC (.int 2)))) dNil))) dNext)
    (dSeq (dIfS (dB (dOp (inG false) (dOp ixG (dVar 0) (dC (.int 0))) (dLst (dCons (dC (.str "call")) (dCons (dC (.str "look")) dNil))))) (dRet (dCB lstG (dCons (dSl (dVar 0) (dPart (dC (.int 2))) dNoP) dNil))) dNext)
    (dRet (dCB lstG (dCons (dSl (dVar 0) (dPart (dC (.int 1))) dNoP) dNil)))))
theorem ok_law_items {f : Addr} {fd : FuncData} (T : Txt w K mg A)  (F : L2.Fun K "_law_items" "_law_items" s_law_items f fd) (sp : DSp) (len : ∀ ds M Q E, sp ds M Q E → ds.length = P_law_items.length) (h : ∀ ds M Q E, sp ds M Q E → t_law_items K A (ends Q E) (dstart N_law_items ds) M) :
    FnOk P w K mg base (L2.CX P w) (0 + 1) f fd P_law_items (liftSp K sp) :=
  okD F sc_law_items len fun cdv A outer s H E hr tk => ⟨t_law_items K _, (pssd_cons (psd_if (pt_cmpD (op_eqG (u200 hr)) (pd_ix ix_G (pdv 0) pd_int (fun _ _ => rfl)) pd_str (nomark _)) (pssd_one (psd_ret (pd_callT call_lstG rfl T.n_list bt_list (pad_cons (pd_slice (pdv 0) (pod_some pd_int) (pod_some pd_int)) pad_nil)))) pssd_nil)
    (pssd_cons (psd_if (pt_cmpD op_inG (pd_ix ix_G (pdv 0) pd_int (fun _ _ => rfl)) (pd_lst (pad_cons pd_str (pad_cons pd_str pad_nil))) (by with_unfolding_all rfl)) (pssd_one (psd_ret (pd_callT call_lstG rfl T.n_list bt_list (pad_cons (pd_slice (pdv 0) (pod_some pd_int) pod_none) pad_nil)))) pssd_nil)
    (pssd_one (psd_ret (pd_callT call_lstG rfl T.n_list bt_list (pad_cons (pd_slice (pdv 0) (pod_some pd_int) pod_none) pad_nil)))))), h⟩
def t_law_rebuilt (K : PySem.W.Frag) (A : Adr) : DS :=
  (dSeq (dIfS (dB (dOp eqD (dOp ixG (dVar 0) (dC (.int 0))) (dC (.str "table")))) (dRet (dTup (dCons (dC (.str "table")) (dCons (dOp ixG (dVar 1) (dC (.int 0))) (dCons (dOp ixG (dVar 0) (dC (.int 2))) (dCons (dOp ixG (dVar 0) (dC (.int 3))) dNil)))))) dNext)
    (dSeq (dIfS (dB (dOp (inG false) (dOp ixG (dVar 0) (dC (.int 0))) (dLst (dCons (dC (.str "call")) (dCons (dC (.str "look")) dNil))))) (dRet (dOp addD (dTup (dCons (dOp ixG (dVar 0) (dC (.int 0))) (dCons (dOp ixG (dVar 0) (dC (.int 1))) dNil))) (dCB tupG (dCons (dVar 1) dNil)))) dNext)
    (dRet (dOp addD (dTup (dCons (dOp ixG (dVar 0) (dC (.int 0))) dNil)) (dCB tupG (dCons (dVar 1) dNil))))))
theorem ok_law_rebuilt {f : Addr} {fd : FuncData} (T : Txt w K mg A)  (F : L2.Fun K "_law_rebuilt" "_law_rebuilt" s_law_rebuilt f fd) (sp : DSp) (len : ∀ ds M Q E, sp ds M Q E → ds.length = P_law_rebuilt.length) (h : ∀ ds M Q E, sp ds M Q E → t_law_rebuilt K A (ends Q E) (dstart N_law_rebuilt ds) M) :
    FnOk P w K mg base (L2.CX P w) (0 + 1) f fd P_law_rebuilt (liftSp K sp) :=
  okD F sc_law_rebuilt len fun cdv A outer s H E hr tk => ⟨t_law_rebuilt K _, (pssd_cons (psd_if (pt_cmpD (op_eqG (u200 hr)) (pd_ix ix_G (pdv 0) pd_int (fun _ _ => rfl)) pd_str (nomark _)) (pssd_one (psd_ret (pd_tup (pad_cons pd_str (pad_cons (pd_ix ix_G (pdv 1) pd_int (fun _ _ => rfl)) (pad_cons (pd_ix ix_G (pdv 0) pd_int (fun _ _ => rfl)) (pad_cons (pd_ix ix_G (pdv 0) pd_int (fun _ _ => rfl)) pad_nil))))))) pssd_nil)
    (pssd_cons (psd_if (pt_cmpD op_inG (pd_ix ix_G (pdv 0) pd_int (fun _ _ => rfl)) (pd_lst (pad_cons pd_str (pad_cons pd_str pad_nil))) (by with_unfolding_all rfl)) (pssd_one (psd_ret (pd_op op_addD (pd_tup (pad_cons (pd_ix ix_G (pdv 0) pd_int (fun _ _ => rfl)) (pad_cons (pd_ix ix_G (pdv 0) pd_int (fun _ _ => rfl)) pad_nil))) (pd_callT call_tupG rfl T.n_tuple bt_tuple (pad_cons (pdv 1) pad_nil))))) pssd_nil)
    (pssd_one (psd_ret (pd_op op_addD (pd_tup (pad_cons (pd_ix ix_G (pdv 0) pd_int (fun _ _ => rfl)) pad_nil)) (pd_callT call_tupG rfl T.n_tuple bt_tuple (pad_cons (pdv 1) pad_nil))))))), h⟩
def t_law_words (K : PySem.W.Frag) (A : Adr) (n : Nat) : DS :=
  (dSeq (dIfS (dTru (dCB (isiG K) (dCons (dVar 0) (dCons (dC (.ty "str")) dNil)))) (dRet (dLst (dCons (dVar 0) dNil))) dNext)
    (dSeq (dIfS (dTru (dCB (isiG K) (dCons (dVar 0) (dCons (dC (.ty "int")) dNil)))) (dRet (dLst dNil)) dNext)
    (dSeq (dAsg (dLst dNil) (dName 1))
    (dSeq (dIfS (dB (dOp eqD (dOp ixG (dVar 0) (dC (.int 0))) (dC (.str "look")))) (dDrop (dBM "list" appendM (dVar 1) (dCons (dOp ixG (dVar 0) (dC (.int 1))) dNil))) dNext)
    (dSeq (dFor (dIter (dCall sp_law_items [] (dCons (dVar 0) dNil))) (dName 2) (dAsg (dOp addD (dVar 1) (dCall (sp_law_words n) [] (dCons (dVar 2) dNil))) (dName 1)))
    (dRet (dVar 1)))))))
theorem ok_law_words {f : Addr} {fd : FuncData} {n : Nat} (T : Txt w K mg A) (G_law_items : FnD P w K mg base 1 "_law_items" P_law_items [] sp_law_items) (G_law_words : FnD P w K mg base (1 + n) "_law_words" P_law_words [] (sp_law_words n)) (F : L2.Fun K "_law_words" "_law_words" s_law_words f fd) (sp : DSp) (len : ∀ ds M Q E, sp ds M Q E → ds.length = P_law_words.length) (h : ∀ ds M Q E, sp ds M Q E → t_law_words K A n (ends Q E) (dstart N_law_words ds) M) :
    FnOk P w K mg base (L2.CX P w) (1 + n + 1) f fd P_law_words (liftSp K sp) :=
  okD F sc_law_words len fun cdv A outer s H E hr tk => ⟨t_law_words K _ n, (pssd_cons (psd_if (ptd_tru (pd_callB call_isiG rfl T.n_isinstance bt_isinstance (pad_cons (pdv 0) (pad_cons (pd_ty rfl T.n_str bt_str) pad_nil)))) (pssd_one (psd_ret (pd_lst (pad_cons (pdv 0) pad_nil)))) pssd_nil)
    (pssd_cons (psd_if (ptd_tru (pd_callB call_isiG rfl T.n_isinstance bt_isinstance (pad_cons (pdv 0) (pad_cons (pd_ty rfl T.n_int bt_int) pad_nil)))) (pssd_one (psd_ret (pd_lst pad_nil))) pssd_nil)
    (pssd_cons (psd_set (i := 1) sc_law_words.nd rfl (Or.inl rfl) (pd_lst pad_nil))
    (pssd_cons (psd_if (pt_cmpD (op_eqG (u200 hr)) (pd_ix ix_G (pdv 0) pd_int (fun _ _ => rfl)) pd_str (nomark _)) (pssd_one (psd_expr (pd_bm PySem.F.plainAttrs_list PySem.F.slot_list_append PySem.F.type_list_append mt_appendM (pdv 1) (pad_cons (pd_ix ix_G (pdv 0) pd_int (fun _ _ => rfl)) pad_nil)))) pssd_nil)
    (pssd_cons (psd_for (passes_of rfl) rfl (pid_any (pd_call G_law_items (hr.mono (by omega)) tk rfl (pad_cons (pdv 0) pad_nil))) (pgd_name (pg_name (i := 2) sc_law_words.nd rfl (Or.inl rfl))) (pssd_one (psd_set (i := 1) sc_law_words.nd rfl (Or.inl rfl) (pd_op op_addD (pdv 1) (pd_call G_law_words (hr.mono (by omega)) tk rfl (pad_cons (pdv 2) pad_nil))))))
    (pssd_one (psd_ret (pdv 1)))))))), h⟩
def t_law_free (K : PySem.W.Frag) (A : Adr) (n : Nat) : DS :=
  (dSeq (dIfS (dB (dOp eqD (dOp ixG (dVar 0) (dC (.int 0))) (dC (.str "is")))) (dRet (dOp addD (dCall (sp_law_words 6) [] (dCons (dOp ixG (dVar 0) (dC (.int 1))) dNil)) (dCall (sp_law_words 6) [] (dCons (dOp ixG (dVar 0) (dC (.int 2))) dNil)))) dNext)
    (dSeq (dIfS (dB (dOp (inG false) (dOp ixG (dVar 0) (dC (.int 0))) (dLst (dCons (dC (.str "and")) (dCons (dC (.str "if")) dNil))))) (dRet (dOp addD (dCall (sp_law_free n) [] (dCons (dOp ixG (dVar 0) (dC (.int 1))) dNil)) (dCall (sp_law_free n) [] (dCons (dOp ixG (dVar 0) (dC (.int 2))) dNil)))) dNext)
    (dRet (dLc (dIter (dCall (sp_law_free n) [] (dCons (dOp ixG (dVar 0) (dNeg (dC (.int 1)))) dNil))) (fun d τ => τ.set 1 (some d)) (dB (dOp neD (dVar 1) (dOp ixG (dVar 0) (dC (.int 1))))) (dVar 1) [1]))))
theorem ok_law_free {f : Addr} {fd : FuncData} {n : Nat} (T : Txt w K mg A) (G_law_free : FnD P w K mg base (7 + n) "_law_free" P_law_free [] (sp_law_free n)) (G_law_words : FnD P w K mg base 7 "_law_words" P_law_words [] (sp_law_words 6)) (F : L2.Fun K "_law_free" "_law_free" s_law_free f fd) (sp : DSp) (len : ∀ ds M Q E, sp ds M Q E → ds.length = P_law_free.length) (h : ∀ ds M Q E, sp ds M Q E → t_law_free K A n (ends Q E) (dstart N_law_free ds) M) :
    FnOk P w K mg base (L2.CX P w) (7 + n + 1) f fd P_law_free (liftSp K sp) :=
  okD F sc_law_free len fun cdv A outer s H E hr tk => ⟨t_law_free K _ n, (pssd_cons (psd_if (pt_cmpD (op_eqG (u200 hr)) (pd_ix ix_G (pdv 0) pd_int (fun _ _ => rfl)) pd_str (nomark _)) (pssd_one (psd_ret (pd_op op_addD (pd_call G_law_words (hr.mono (by omega)) tk rfl (pad_cons (pd_ix ix_G (pdv 0) pd_int (fun _ _ => rfl)) pad_nil)) (pd_call G_law_words (hr.mono (by omega)) tk rfl (pad_cons (pd_ix ix_G (pdv 0) pd_int (fun _ _ => rfl)) pad_nil))))) pssd_nil)
    (pssd_cons (psd_if (pt_cmpD op_inG (pd_ix ix_G (pdv 0) pd_int (fun _ _ => rfl)) (pd_lst (pad_cons pd_str (pad_cons pd_str pad_nil))) (by with_unfolding_all rfl)) (pssd_one (psd_ret (pd_op op_addD (pd_call G_law_free (hr.mono (by omega)) tk rfl (pad_cons (pd_ix ix_G (pdv 0) pd_int (fun _ _ => rfl)) pad_nil)) (pd_call G_law_free (hr.mono (by omega)) tk rfl (pad_cons (pd_ix ix_G (pdv 0) pd_int (fun _ _ => rfl)) pad_nil))))) pssd_nil)
    (pssd_one (psd_ret (pd_lc (own := [("word", 1)]) (i := 1) rfl sc_law_free.nd (pid_any (pd_call G_law_free (hr.mono (by omega)) tk rfl (pad_cons (pd_ix ix_G (pdv 0) (pd_neg pd_int) (fun _ _ => rfl)) pad_nil))) (blkOk_by (N := N_law_free) (sc := defScope s_law_free) (by decide +kernel)) (by decide) (fun _ _ _ _ _ => pg_name (i := 1) sc_law_free.nd rfl (Or.inl rfl)) (fun _ _ _ _ _ => (ptsd_one (pt_cmpD (op_neG (u200 hr)) (pdv 1) (pd_ix ix_G (pdv 0) pd_int (fun _ _ => rfl)) (nomark _)))) (fun _ _ _ _ _ => (pdv 1))))))), h⟩
def t_law_put (K : PySem.W.Frag) (A : Adr) (n : Nat) : DS :=
  (dSeq (dIfS (dB (dOp eqD (dCB lenG (dCons (dVar 1) dNil)) (dC (.int 0)))) (dRet (dVar 2)) dNext)
    (dRet (dOp addD (dOp addD (dSl (dVar 0) dNoP (dPart (dOp ixG (dVar 1) (dC (.int 0))))) (dTup (dCons (dCall (sp_law_put n) [] (dCons (dOp ixG (dVar 0) (dOp ixG (dVar 1) (dC (.int 0)))) (dCons (dSl (dVar 1) (dPart (dC (.int 1))) dNoP) (dCons (dVar 2) dNil)))) dNil))) (dSl (dVar 0) (dPart (dOp addD (dOp ixG (dVar 1) (dC (.int 0))) (dC (.int 1)))) dNoP))))
theorem ok_law_put {f : Addr} {fd : FuncData} {n : Nat} (T : Txt w K mg A) (G_law_put : FnD P w K mg base (0 + n) "_law_put" P_law_put [] (sp_law_put n)) (F : L2.Fun K "_law_put" "_law_put" s_law_put f fd) (sp : DSp) (len : ∀ ds M Q E, sp ds M Q E → ds.length = P_law_put.length) (h : ∀ ds M Q E, sp ds M Q E → t_law_put K A n (ends Q E) (dstart N_law_put ds) M) :
    FnOk P w K mg base (L2.CX P w) (0 + n + 1) f fd P_law_put (liftSp K sp) :=
  okD F sc_law_put len fun cdv A outer s H E hr tk => ⟨t_law_put K _ n, (pssd_cons (psd_if (pt_cmpD (op_eqG (u200 hr)) (pd_callB call_lenG rfl T.n_len bt_len (pad_cons (pdv 1) pad_nil)) pd_int (nomark _)) (pssd_one (psd_ret (pdv 2))) pssd_nil)
    (pssd_one (psd_ret (pd_op op_addD (pd_op op_addD (pd_slice (pdv 0) pod_none (pod_some (pd_ix ix_G (pdv 1) pd_int (fun _ _ => rfl)))) (pd_tup (pad_cons (pd_call G_law_put (hr.mono (by omega)) tk rfl (pad_cons (pd_ix ix_G (pdv 0) (pd_ix ix_G (pdv 1) pd_int (fun _ _ => rfl)) (fun _ _ => rfl)) (pad_cons (pd_slice (pdv 1) (pod_some pd_int) pod_none) (pad_cons (pdv 2) pad_nil)))) pad_nil))) (pd_slice (pdv 0) (pod_some (pd_op op_addD (pd_ix ix_G (pdv 1) pd_int (fun _ _ => rfl)) pd_int)) pod_none))))), h⟩
def t_law_tower (K : PySem.W.Frag) (A : Adr) : DS :=
  (dSeq (dLock (dAsg (dLc (dKeys (dVar 1)) (fun d τ => τ.set 10 (some d)) (dB (dOp eqD (dDGet (dVar 1) (dVar 10)) (dC (.int 0)))) (dVar 10) [10]) (dName 3)))
    (dSeq (dLock (dAsg (dLc (dKeys (dVar 1)) (fun d τ => τ.set 10 (some d)) (dB (dOp (oI0 fun i j => .bl (decide (j < i))) (dDGet (dVar 1) (dVar 10)) (dC (.int 0)))) (dTup (dCons (dVar 10) (dCons (dDGet (dVar 1) (dVar 10)) dNil))) [10]) (dName 4)))
    (dSeq (dAsg (dCall (sp_law_expression 4) [] (dCons (dVar 0) (dCons (dVar 3) (dCons (dVar 4) (dCons (dVar 2) (dCons (dC (.int 1)) dNil)))))) (dName 5))
    (dSeq (dAsg (dTup (dCons (dC (.str "is")) (dCons (dVar 5) (dCons (dCall (sp_law_expression 4) [] (dCons (dVar 0) (dCons (dVar 3) (dCons (dVar 4) (dCons (dVar 2) (dCons (dC (.int 1)) dNil)))))) dNil)))) (dName 6))
    (dSeq (dAsg (dCall (sp_law_free 40) [] (dCons (dVar 6) dNil)) (dName 7))
    (dSeq (dFor (dRng1 (dCons (dCall sp_law_pick [] (dCons (dVar 0) (dCons (dC (.int 27)) dNil))) dNil)) (dName 8) (dSeq (dAsg (dOp ixG (dCB lstDict (dCons (dVar 1) dNil)) (dCall sp_law_pick [] (dCons (dVar 0) (dCons (dCB lenDict (dCons (dVar 1) dNil)) dNil)))) (dName 9))
    (dIfS (dB (dOp eqD (dDGet (dVar 1) (dVar 9)) (dC (.int 0)))) (dAsg (dOp ixG (dLst (dCons (dTup (dCons (dC (.str "all")) (dCons (dVar 9) (dCons (dVar 6) dNil)))) (dCons (dTup (dCons (dC (.str "some")) (dCons (dVar 9) (dCons (dVar 6) dNil)))) (dCons (dTup (dCons (dC (.str "allbelow")) (dCons (dVar 9) (dCons (dC (.int 12)) (dCons (dVar 6) dNil))))) dNil)))) (dCall sp_law_pick [] (dCons (dVar 0) (dCons (dC (.int 3)) dNil)))) (dName 6)) (dIfS (dOr (dB (dOp eqD (dDGet (dVar 1) (dVar 9)) (dC (.int 1)))) (dB (dOp (inG true) (dVar 9) (dVar 7)))) (dAsg (dTup (dCons (dOp ixG (dLst (dCons (dC (.str "allrow")) (dCons (dC (.str "somerow")) dNil))) (dCall sp_law_pick [] (dCons (dVar 0) (dCons (dC (.int 2)) dNil)))) (dCons (dVar 9) (dCons (dVar 6) dNil)))) (dName 6)) dNext))))
    (dRet (dVar 6))))))))
theorem ok_law_tower {f : Addr} {fd : FuncData} (T : Txt w K mg A) (G_law_expression : FnD P w K mg base 6 "_law_expression" P_law_expression [] (sp_law_expression 4)) (G_law_free : FnD P w K mg base 47 "_law_free" P_law_free [] (sp_law_free 40)) (G_law_pick : FnD P w K mg base 1 "_law_pick" P_law_pick [] sp_law_pick) (F : L2.Fun K "_law_tower" "_law_tower" s_law_tower f fd) (sp : DSp) (len : ∀ ds M Q E, sp ds M Q E → ds.length = P_law_tower.length) (h : ∀ ds M Q E, sp ds M Q E → t_law_tower K A (ends Q E) (dstart N_law_tower ds) M) :
    FnOk P w K mg base (L2.CX P w) (47 + 1) f fd P_law_tower (liftSp K sp) :=
  okD F sc_law_tower len fun cdv A outer s H E hr tk => ⟨t_law_tower K _, (pssd_cons (psd_lock (psd_setLc (own := [("name", 10)]) (i := 10) (j := 3) rfl sc_law_tower.nd rfl rfl (sw_true rfl rfl rfl (by decide +kernel)) (pid_keys (pdv 1)) (blkOk_by (N := N_law_tower) (sc := defScope s_law_tower) (by decide +kernel)) (by decide) (fun _ _ _ _ _ => pg_name (i := 10) sc_law_tower.nd rfl (Or.inl rfl)) (fun _ _ _ _ _ => (ptsd_one (pt_cmpD (op_eqG (u200 hr)) (pd_dget (u1 hr) (pdv 1) (pdv 10) (fun _ _ => rfl)) pd_int (nomark _)))) (fun _ _ _ _ _ => (pdv 10))))
    (pssd_cons (psd_lock (psd_setLc (own := [("name", 10)]) (i := 10) (j := 4) rfl sc_law_tower.nd rfl rfl (sw_true rfl rfl rfl (by decide +kernel)) (pid_keys (pdv 1)) (blkOk_by (N := N_law_tower) (sc := defScope s_law_tower) (by decide +kernel)) (by decide) (fun _ _ _ _ _ => pg_name (i := 10) sc_law_tower.nd rfl (Or.inl rfl)) (fun _ _ _ _ _ => (ptsd_one (pt_cmpD op_gtD (pd_dget (u1 hr) (pdv 1) (pdv 10) (fun _ _ => rfl)) pd_int (nomark _)))) (fun _ _ _ _ _ => (pd_tup (pad_cons (pdv 10) (pad_cons (pd_dget (u1 hr) (pdv 1) (pdv 10) (fun _ _ => rfl)) pad_nil))))))
    (pssd_cons (psd_set (i := 5) sc_law_tower.nd rfl (Or.inl rfl) (pd_call G_law_expression (hr.mono (by omega)) tk rfl (pad_cons (pdv 0) (pad_cons (pdv 3) (pad_cons (pdv 4) (pad_cons (pdv 2) (pad_cons pd_int pad_nil)))))))
    (pssd_cons (psd_set (i := 6) sc_law_tower.nd rfl (Or.inl rfl) (pd_tup (pad_cons pd_str (pad_cons (pdv 5) (pad_cons (pd_call G_law_expression (hr.mono (by omega)) tk rfl (pad_cons (pdv 0) (pad_cons (pdv 3) (pad_cons (pdv 4) (pad_cons (pdv 2) (pad_cons pd_int pad_nil)))))) pad_nil)))))
    (pssd_cons (psd_set (i := 7) sc_law_tower.nd rfl (Or.inl rfl) (pd_call G_law_free (hr.mono (by omega)) tk rfl (pad_cons (pdv 6) pad_nil)))
    (pssd_cons (psd_for (passes_of rfl) rfl (pid_rng1 rfl T.n_range (pad_cons (pd_call G_law_pick (hr.mono (by omega)) tk rfl (pad_cons (pdv 0) (pad_cons pd_int pad_nil))) pad_nil)) (pgd_name (pg_name (i := 8) sc_law_tower.nd rfl (Or.inl rfl))) (pssd_cons (psd_set (i := 9) sc_law_tower.nd rfl (Or.inl rfl) (pd_ix ix_G (pd_callT (call_lstDict rfl) rfl T.n_list bt_list (pad_cons (pdv 1) pad_nil)) (pd_call G_law_pick (hr.mono (by omega)) tk rfl (pad_cons (pdv 0) (pad_cons (pd_callB call_lenDict rfl T.n_len bt_len (pad_cons (pdv 1) pad_nil)) pad_nil))) (fun _ _ => rfl)))
    (pssd_one (psd_if (pt_cmpD (op_eqG (u200 hr)) (pd_dget (u1 hr) (pdv 1) (pdv 9) (fun _ _ => rfl)) pd_int (nomark _)) (pssd_one (psd_set (i := 6) sc_law_tower.nd rfl (Or.inl rfl) (pd_ix ix_G (pd_lst (pad_cons (pd_tup (pad_cons pd_str (pad_cons (pdv 9) (pad_cons (pdv 6) pad_nil)))) (pad_cons (pd_tup (pad_cons pd_str (pad_cons (pdv 9) (pad_cons (pdv 6) pad_nil)))) (pad_cons (pd_tup (pad_cons pd_str (pad_cons (pdv 9) (pad_cons pd_int (pad_cons (pdv 6) pad_nil))))) pad_nil)))) (pd_call G_law_pick (hr.mono (by omega)) tk rfl (pad_cons (pdv 0) (pad_cons pd_int pad_nil))) (fun _ _ => rfl)))) (pssd_one (psd_if (PWD.pt (pwd_or (pt_cmpD (op_eqG (u200 hr)) (pd_dget (u1 hr) (pdv 1) (pdv 9) (fun _ _ => rfl)) pd_int (nomark _)) (pwd_or1 (pt_cmpD op_notInG (pdv 9) (pdv 7) (by with_unfolding_all rfl))))) (pssd_one (psd_set (i := 6) sc_law_tower.nd rfl (Or.inl rfl) (pd_tup (pad_cons (pd_ix ix_G (pd_lst (pad_cons pd_str (pad_cons pd_str pad_nil))) (pd_call G_law_pick (hr.mono (by omega)) tk rfl (pad_cons (pdv 0) (pad_cons pd_int pad_nil))) (fun _ _ => rfl)) (pad_cons (pdv 9) (pad_cons (pdv 6) pad_nil)))))) pssd_nil))))))
    (pssd_one (psd_ret (pdv 6))))))))), h⟩
def t_law_filled (K : PySem.W.Frag) (A : Adr) (n : Nat) : DS :=
  (dSeq (dIfS (dTru (dCB (isiG K) (dCons (dVar 0) (dCons (dC (.ty "str")) dNil)))) (dRet (dDGet2 (dVar 1) (dVar 0) (dVar 0))) dNext)
    (dSeq (dIfS (dTru (dCB (isiG K) (dCons (dVar 0) (dCons (dC (.ty "int")) dNil)))) (dRet (dVar 0)) dNext)
    (dSeq (dAsg (dCall sp_law_rebuilt [] (dCons (dVar 0) (dCons (dLc (dIter (dCall sp_law_items [] (dCons (dVar 0) dNil))) (fun d τ => τ.set 3 (some d)) dYes (dCall (sp_law_filled n) [] (dCons (dVar 3) (dCons (dVar 1) dNil))) [3]) dNil))) (dName 2))
    (dSeq (dIfS (dB (dOp eqD (dOp ixG (dVar 0) (dC (.int 0))) (dC (.str "look")))) (dRet (dOp addD (dTup (dCons (dC (.str "look")) (dCons (dDGet2 (dVar 1) (dOp ixG (dVar 0) (dC (.int 1))) (dOp ixG (dVar 0) (dC (.int 1)))) dNil))) (dSl (dVar 2) (dPart (dC (.int 2))) dNoP))) dNext)
    (dRet (dVar 2))))))
theorem ok_law_filled {f : Addr} {fd : FuncData} {n : Nat} (T : Txt w K mg A) (G_law_filled : FnD P w K mg base (1 + n) "_law_filled" P_law_filled [] (sp_law_filled n)) (G_law_items : FnD P w K mg base 1 "_law_items" P_law_items [] sp_law_items) (G_law_rebuilt : FnD P w K mg base 1 "_law_rebuilt" P_law_rebuilt [] sp_law_rebuilt) (F : L2.Fun K "_law_filled" "_law_filled" s_law_filled f fd) (sp : DSp) (len : ∀ ds M Q E, sp ds M Q E → ds.length = P_law_filled.length) (h : ∀ ds M Q E, sp ds M Q E → t_law_filled K A n (ends Q E) (dstart N_law_filled ds) M) :
    FnOk P w K mg base (L2.CX P w) (1 + n + 1) f fd P_law_filled (liftSp K sp) :=
  okD F sc_law_filled len fun cdv A outer s H E hr tk => ⟨t_law_filled K _ n, (pssd_cons (psd_if (ptd_tru (pd_callB call_isiG rfl T.n_isinstance bt_isinstance (pad_cons (pdv 0) (pad_cons (pd_ty rfl T.n_str bt_str) pad_nil)))) (pssd_one (psd_ret (pd_dget2 (u1 hr) (pdv 1) (pdv 0) (pdv 0) ⟨rfl, rfl, rfl, rfl⟩))) pssd_nil)
    (pssd_cons (psd_if (ptd_tru (pd_callB call_isiG rfl T.n_isinstance bt_isinstance (pad_cons (pdv 0) (pad_cons (pd_ty rfl T.n_int bt_int) pad_nil)))) (pssd_one (psd_ret (pdv 0))) pssd_nil)
    (pssd_cons (psd_set (i := 2) sc_law_filled.nd rfl (Or.inl rfl) (pd_call G_law_rebuilt (hr.mono (by omega)) tk rfl (pad_cons (pdv 0) (pad_cons (pd_lc (own := [("item", 3)]) (i := 3) rfl sc_law_filled.nd (pid_any (pd_call G_law_items (hr.mono (by omega)) tk rfl (pad_cons (pdv 0) pad_nil))) (blkOk_by (N := N_law_filled) (sc := defScope s_law_filled) (by decide +kernel)) (by decide) (fun _ _ _ _ _ => pg_name (i := 3) sc_law_filled.nd rfl (Or.inl rfl)) (fun _ _ _ _ _ => ptsd_nil) (fun _ _ _ _ _ => (pd_call G_law_filled (hr.mono (by omega)) tk0 rfl (pad_cons (pdv 3) (pad_cons (pdv 1) pad_nil))))) pad_nil))))
    (pssd_cons (psd_if (pt_cmpD (op_eqG (u200 hr)) (pd_ix ix_G (pdv 0) pd_int (fun _ _ => rfl)) pd_str (nomark _)) (pssd_one (psd_ret (pd_op op_addD (pd_tup (pad_cons pd_str (pad_cons (pd_dget2 (u1 hr) (pdv 1) (pd_ix ix_G (pdv 0) pd_int (fun _ _ => rfl)) (pd_ix ix_G (pdv 0) pd_int (fun _ _ => rfl)) ⟨rfl, rfl, rfl, rfl⟩) pad_nil))) (pd_slice (pdv 2) (pod_some pd_int) pod_none)))) pssd_nil)
    (pssd_one (psd_ret (pdv 2))))))), h⟩
def t_law_plain (K : PySem.W.Frag) (A : Adr) (n : Nat) : DS :=
  (dSeq (dIfS (dB (dOp eqD (dOp ixG (dVar 0) (dC (.int 0))) (dC (.str "is")))) (dRet (dTup (dCons (dC (.str "is")) (dCons (dCall (sp_law_filled 6) [] (dCons (dOp ixG (dVar 0) (dC (.int 1))) (dCons (dVar 1) dNil))) (dCons (dCall (sp_law_filled 6) [] (dCons (dOp ixG (dVar 0) (dC (.int 2))) (dCons (dVar 1) dNil))) dNil))))) dNext)
    (dSeq (dIfS (dB (dOp (inG false) (dOp ixG (dVar 0) (dC (.int 0))) (dLst (dCons (dC (.str "and")) (dCons (dC (.str "if")) dNil))))) (dRet (dTup (dCons (dOp ixG (dVar 0) (dC (.int 0))) (dCons (dCall (sp_law_plain n) [] (dCons (dOp ixG (dVar 0) (dC (.int 1))) (dCons (dVar 1) (dCons (dVar 2) dNil)))) (dCons (dCall (sp_law_plain n) [] (dCons (dOp ixG (dVar 0) (dC (.int 2))) (dCons (dVar 1) (dCons (dVar 2) dNil)))) dNil))))) dNext)
    (dSeq (dAsg (dOp addD (dC (.str "B")) (dCB strG (dCons (dVar 2) dNil))) (dName 3))
    (dRet (dOp addD (dOp addD (dTup (dCons (dOp ixG (dVar 0) (dC (.int 0))) (dCons (dVar 3) dNil))) (dSl (dVar 0) (dPart (dC (.int 2))) (dPart (dNeg (dC (.int 1)))))) (dTup (dCons (dCall (sp_law_plain n) [] (dCons (dOp ixG (dVar 0) (dNeg (dC (.int 1)))) (dCons (dCall sp_law_with [] (dCons (dVar 1) (dCons (dOp ixG (dVar 0) (dC (.int 1))) (dCons (dVar 3) dNil)))) (dCons (dOp addD (dVar 2) (dC (.int 1))) dNil)))) dNil)))))))
theorem ok_law_plain {f : Addr} {fd : FuncData} {n : Nat} (T : Txt w K mg A) (G_law_filled : FnD P w K mg base 7 "_law_filled" P_law_filled [] (sp_law_filled 6)) (G_law_plain : FnD P w K mg base (7 + n) "_law_plain" P_law_plain [] (sp_law_plain n)) (G_law_with : FnD P w K mg base 1 "_law_with" P_law_with [] sp_law_with) (F : L2.Fun K "_law_plain" "_law_plain" s_law_plain f fd) (sp : DSp) (len : ∀ ds M Q E, sp ds M Q E → ds.length = P_law_plain.length) (h : ∀ ds M Q E, sp ds M Q E → t_law_plain K A n (ends Q E) (dstart N_law_plain ds) M) :
    FnOk P w K mg base (L2.CX P w) (7 + n + 1) f fd P_law_plain (liftSp K sp) :=
  okD F sc_law_plain len fun cdv A outer s H E hr tk => ⟨t_law_plain K _ n, (pssd_cons (psd_if (pt_cmpD (op_eqG (u200 hr)) (pd_ix ix_G (pdv 0) pd_int (fun _ _ => rfl)) pd_str (nomark _)) (pssd_one (psd_ret (pd_tup (pad_cons pd_str (pad_cons (pd_call G_law_filled (hr.mono (by omega)) tk rfl (pad_cons (pd_ix ix_G (pdv 0) pd_int (fun _ _ => rfl)) (pad_cons (pdv 1) pad_nil))) (pad_cons (pd_call G_law_filled (hr.mono (by omega)) tk rfl (pad_cons (pd_ix ix_G (pdv 0) pd_int (fun _ _ => rfl)) (pad_cons (pdv 1) pad_nil))) pad_nil)))))) pssd_nil)
    (pssd_cons (psd_if (pt_cmpD op_inG (pd_ix ix_G (pdv 0) pd_int (fun _ _ => rfl)) (pd_lst (pad_cons pd_str (pad_cons pd_str pad_nil))) (by with_unfolding_all rfl)) (pssd_one (psd_ret (pd_tup (pad_cons (pd_ix ix_G (pdv 0) pd_int (fun _ _ => rfl)) (pad_cons (pd_call G_law_plain (hr.mono (by omega)) tk rfl (pad_cons (pd_ix ix_G (pdv 0) pd_int (fun _ _ => rfl)) (pad_cons (pdv 1) (pad_cons (pdv 2) pad_nil)))) (pad_cons (pd_call G_law_plain (hr.mono (by omega)) tk rfl (pad_cons (pd_ix ix_G (pdv 0) pd_int (fun _ _ => rfl)) (pad_cons (pdv 1) (pad_cons (pdv 2) pad_nil)))) pad_nil)))))) pssd_nil)
    (pssd_cons (psd_set (i := 3) sc_law_plain.nd rfl (Or.inl rfl) (pd_op op_addD pd_str (pd_callT call_strG rfl T.n_str bt_str (pad_cons (pdv 2) pad_nil))))
    (pssd_one (psd_ret (pd_op op_addD (pd_op op_addD (pd_tup (pad_cons (pd_ix ix_G (pdv 0) pd_int (fun _ _ => rfl)) (pad_cons (pdv 3) pad_nil))) (pd_slice (pdv 0) (pod_some pd_int) (pod_some (pd_neg pd_int)))) (pd_tup (pad_cons (pd_call G_law_plain (hr.mono (by omega)) tk rfl (pad_cons (pd_ix ix_G (pdv 0) (pd_neg pd_int) (fun _ _ => rfl)) (pad_cons (pd_call G_law_with (hr.mono (by omega)) tk rfl (pad_cons (pdv 1) (pad_cons (pd_ix ix_G (pdv 0) pd_int (fun _ _ => rfl)) (pad_cons (pdv 3) pad_nil)))) (pad_cons (pd_op op_addD (pdv 2) pd_int) pad_nil)))) pad_nil)))))))), h⟩
def t_law_renamed (K : PySem.W.Frag) (A : Adr) (n : Nat) : DS :=
  (dSeq (dIfS (dB (dOp eqD (dOp ixG (dVar 1) (dC (.int 0))) (dC (.str "is")))) (dRet (dTup (dCons (dC (.str "is")) (dCons (dCall (sp_law_filled 6) [] (dCons (dOp ixG (dVar 1) (dC (.int 1))) (dCons (dVar 2) dNil))) (dCons (dCall (sp_law_filled 6) [] (dCons (dOp ixG (dVar 1) (dC (.int 2))) (dCons (dVar 2) dNil))) dNil))))) dNext)
    (dSeq (dIfS (dB (dOp (inG false) (dOp ixG (dVar 1) (dC (.int 0))) (dLst (dCons (dC (.str "and")) (dCons (dC (.str "if")) dNil))))) (dSeq (dAsg (dCall (sp_law_renamed n) [] (dCons (dVar 0) (dCons (dOp ixG (dVar 1) (dC (.int 1))) (dCons (dVar 2) (dCons (dVar 3) dNil))))) (dName 4))
    (dRet (dTup (dCons (dOp ixG (dVar 1) (dC (.int 0))) (dCons (dVar 4) (dCons (dCall (sp_law_renamed n) [] (dCons (dVar 0) (dCons (dOp ixG (dVar 1) (dC (.int 2))) (dCons (dVar 2) (dCons (dVar 3) dNil))))) dNil)))))) dNext)
    (dSeq (dAsg (dLc (dIter (dCall (sp_law_free 40) [] (dCons (dOp ixG (dVar 1) (dNeg (dC (.int 1)))) dNil))) (fun d τ => τ.set 6 (some d)) (dB (dOp neD (dVar 6) (dOp ixG (dVar 1) (dC (.int 1))))) (dDGet2 (dVar 2) (dVar 6) (dVar 6)) [6]) (dName 5))
    (dSeq (dAsg (dOp ixG (dVar 3) (dCall sp_law_pick [] (dCons (dVar 0) (dCons (dCB lenG (dCons (dVar 3) dNil)) dNil)))) (dName 6))
    (dSeq (dIfS (dOr (dB (dOp (inG false) (dVar 6) (dVar 5))) (dB (dOp eqD (dCall sp_law_pick [] (dCons (dVar 0) (dCons (dC (.int 4)) dNil))) (dC (.int 0))))) (dAsg (dCall sp_law_new [] (dCons (dVar 0) (dCons (dVar 5) dNil))) (dName 6)) dNext)
    (dRet (dOp addD (dOp addD (dTup (dCons (dOp ixG (dVar 1) (dC (.int 0))) (dCons (dVar 6) dNil))) (dSl (dVar 1) (dPart (dC (.int 2))) (dPart (dNeg (dC (.int 1)))))) (dTup (dCons (dCall (sp_law_renamed n) [] (dCons (dVar 0) (dCons (dOp ixG (dVar 1) (dNeg (dC (.int 1)))) (dCons (dCall sp_law_with [] (dCons (dVar 2) (dCons (dOp ixG (dVar 1) (dC (.int 1))) (dCons (dVar 6) dNil)))) (dCons (dVar 3) dNil))))) dNil)))))))))
theorem ok_law_renamed {f : Addr} {fd : FuncData} {n : Nat} (T : Txt w K mg A) (G_law_filled : FnD P w K mg base 7 "_law_filled" P_law_filled [] (sp_law_filled 6)) (G_law_free : FnD P w K mg base 47 "_law_free" P_law_free [] (sp_law_free 40)) (G_law_new : FnD P w K mg base 2 "_law_new" P_law_new [] sp_law_new) (G_law_pick : FnD P w K mg base 1 "_law_pick" P_law_pick [] sp_law_pick) (G_law_renamed : FnD P w K mg base (47 + n) "_law_renamed" P_law_renamed [] (sp_law_renamed n)) (G_law_with : FnD P w K mg base 1 "_law_with" P_law_with [] sp_law_with) (F : L2.Fun K "_law_renamed" "_law_renamed" s_law_renamed f fd) (sp : DSp) (len : ∀ ds M Q E, sp ds M Q E → ds.length = P_law_renamed.length) (h : ∀ ds M Q E, sp ds M Q E → t_law_renamed K A n (ends Q E) (dstart N_law_renamed ds) M) :
    FnOk P w K mg base (L2.CX P w) (47 + n + 1) f fd P_law_renamed (liftSp K sp) :=
  okD F sc_law_renamed len fun cdv A outer s H E hr tk => ⟨t_law_renamed K _ n, (pssd_cons (psd_if (pt_cmpD (op_eqG (u200 hr)) (pd_ix ix_G (pdv 1) pd_int (fun _ _ => rfl)) pd_str (nomark _)) (pssd_one (psd_ret (pd_tup (pad_cons pd_str (pad_cons (pd_call G_law_filled (hr.mono (by omega)) tk rfl (pad_cons (pd_ix ix_G (pdv 1) pd_int (fun _ _ => rfl)) (pad_cons (pdv 2) pad_nil))) (pad_cons (pd_call G_law_filled (hr.mono (by omega)) tk rfl (pad_cons (pd_ix ix_G (pdv 1) pd_int (fun _ _ => rfl)) (pad_cons (pdv 2) pad_nil))) pad_nil)))))) pssd_nil)
    (pssd_cons (psd_if (pt_cmpD op_inG (pd_ix ix_G (pdv 1) pd_int (fun _ _ => rfl)) (pd_lst (pad_cons pd_str (pad_cons pd_str pad_nil))) (by with_unfolding_all rfl)) (pssd_cons (psd_set (i := 4) sc_law_renamed.nd rfl (Or.inl rfl) (pd_call G_law_renamed (hr.mono (by omega)) tk rfl (pad_cons (pdv 0) (pad_cons (pd_ix ix_G (pdv 1) pd_int (fun _ _ => rfl)) (pad_cons (pdv 2) (pad_cons (pdv 3) pad_nil))))))
    (pssd_one (psd_ret (pd_tup (pad_cons (pd_ix ix_G (pdv 1) pd_int (fun _ _ => rfl)) (pad_cons (pdv 4) (pad_cons (pd_call G_law_renamed (hr.mono (by omega)) tk rfl (pad_cons (pdv 0) (pad_cons (pd_ix ix_G (pdv 1) pd_int (fun _ _ => rfl)) (pad_cons (pdv 2) (pad_cons (pdv 3) pad_nil))))) pad_nil))))))) pssd_nil)
    (pssd_cons (psd_setLc (own := [("word", 6)]) (i := 6) (j := 5) rfl sc_law_renamed.nd rfl rfl (sw_true rfl rfl rfl (by decide +kernel)) (pid_any (pd_call G_law_free (hr.mono (by omega)) tk rfl (pad_cons (pd_ix ix_G (pdv 1) (pd_neg pd_int) (fun _ _ => rfl)) pad_nil))) (blkOk_by (N := N_law_renamed) (sc := defScope s_law_renamed) (by decide +kernel)) (by decide) (fun _ _ _ _ _ => pg_name (i := 6) sc_law_renamed.nd rfl (Or.inl rfl)) (fun _ _ _ _ _ => (ptsd_one (pt_cmpD (op_neG (u200 hr)) (pdv 6) (pd_ix ix_G (pdv 1) pd_int (fun _ _ => rfl)) (nomark _)))) (fun _ _ _ _ _ => (pd_dget2 (u1 hr) (pdv 2) (pdv 6) (pdv 6) ⟨rfl, rfl, rfl, rfl⟩)))
    (pssd_cons (psd_set (i := 6) sc_law_renamed.nd rfl (Or.inl rfl) (pd_ix ix_G (pdv 3) (pd_call G_law_pick (hr.mono (by omega)) tk rfl (pad_cons (pdv 0) (pad_cons (pd_callB call_lenG rfl T.n_len bt_len (pad_cons (pdv 3) pad_nil)) pad_nil))) (fun _ _ => rfl)))
    (pssd_cons (psd_if (PWD.pt (pwd_or (pt_cmpD op_inG (pdv 6) (pdv 5) (by with_unfolding_all rfl)) (pwd_or1 (pt_cmpD (op_eqG (u200 hr)) (pd_call G_law_pick (hr.mono (by omega)) tk rfl (pad_cons (pdv 0) (pad_cons pd_int pad_nil))) pd_int (nomark _))))) (pssd_one (psd_set (i := 6) sc_law_renamed.nd rfl (Or.inl rfl) (pd_call G_law_new (hr.mono (by omega)) tk rfl (pad_cons (pdv 0) (pad_cons (pdv 5) pad_nil))))) pssd_nil)
    (pssd_one (psd_ret (pd_op op_addD (pd_op op_addD (pd_tup (pad_cons (pd_ix ix_G (pdv 1) pd_int (fun _ _ => rfl)) (pad_cons (pdv 6) pad_nil))) (pd_slice (pdv 1) (pod_some pd_int) (pod_some (pd_neg pd_int)))) (pd_tup (pad_cons (pd_call G_law_renamed (hr.mono (by omega)) tk rfl (pad_cons (pdv 0) (pad_cons (pd_ix ix_G (pdv 1) (pd_neg pd_int) (fun _ _ => rfl)) (pad_cons (pd_call G_law_with (hr.mono (by omega)) tk rfl (pad_cons (pdv 2) (pad_cons (pd_ix ix_G (pdv 1) pd_int (fun _ _ => rfl)) (pad_cons (pdv 6) pad_nil)))) (pad_cons (pdv 3) pad_nil))))) pad_nil)))))))))), h⟩
def t_law_uses_in (K : PySem.W.Frag) (A : Adr) (n : Nat) : DS :=
  (dSeq (dIfS (dTru (dCB (isiG K) (dCons (dVar 0) (dCons (dC (.ty "str")) dNil)))) (dRet (dLst (dCons (dTup (dCons (dVar 0) (dCons (dC (.int 0)) dNil))) dNil))) dNext)
    (dSeq (dIfS (dTru (dCB (isiG K) (dCons (dVar 0) (dCons (dC (.ty "int")) dNil)))) (dRet (dLst dNil)) dNext)
    (dSeq (dAsg (dLst dNil) (dName 1))
    (dSeq (dIfS (dB (dOp eqD (dOp ixG (dVar 0) (dC (.int 0))) (dC (.str "look")))) (dDrop (dBM "list" appendM (dVar 1) (dCons (dTup (dCons (dOp ixG (dVar 0) (dC (.int 1))) (dCons (dOp (oI0 fun i j => .int (i - j)) (dCB lenG (dCons (dVar 0) dNil)) (dC (.int 2))) dNil))) dNil))) dNext)
    (dSeq (dFor (dIter (dCall sp_law_items [] (dCons (dVar 0) dNil))) (dName 2) (dAsg (dOp addD (dVar 1) (dCall (sp_law_uses_in n) [] (dCons (dVar 2) dNil))) (dName 1)))
    (dRet (dVar 1)))))))
theorem ok_law_uses_in {f : Addr} {fd : FuncData} {n : Nat} (T : Txt w K mg A) (G_law_items : FnD P w K mg base 1 "_law_items" P_law_items [] sp_law_items) (G_law_uses_in : FnD P w K mg base (1 + n) "_law_uses_in" P_law_uses_in [] (sp_law_uses_in n)) (F : L2.Fun K "_law_uses_in" "_law_uses_in" s_law_uses_in f fd) (sp : DSp) (len : ∀ ds M Q E, sp ds M Q E → ds.length = P_law_uses_in.length) (h : ∀ ds M Q E, sp ds M Q E → t_law_uses_in K A n (ends Q E) (dstart N_law_uses_in ds) M) :
    FnOk P w K mg base (L2.CX P w) (1 + n + 1) f fd P_law_uses_in (liftSp K sp) :=
  okD F sc_law_uses_in len fun cdv A outer s H E hr tk => ⟨t_law_uses_in K _ n, (pssd_cons (psd_if (ptd_tru (pd_callB call_isiG rfl T.n_isinstance bt_isinstance (pad_cons (pdv 0) (pad_cons (pd_ty rfl T.n_str bt_str) pad_nil)))) (pssd_one (psd_ret (pd_lst (pad_cons (pd_tup (pad_cons (pdv 0) (pad_cons pd_int pad_nil))) pad_nil)))) pssd_nil)
    (pssd_cons (psd_if (ptd_tru (pd_callB call_isiG rfl T.n_isinstance bt_isinstance (pad_cons (pdv 0) (pad_cons (pd_ty rfl T.n_int bt_int) pad_nil)))) (pssd_one (psd_ret (pd_lst pad_nil))) pssd_nil)
    (pssd_cons (psd_set (i := 1) sc_law_uses_in.nd rfl (Or.inl rfl) (pd_lst pad_nil))
    (pssd_cons (psd_if (pt_cmpD (op_eqG (u200 hr)) (pd_ix ix_G (pdv 0) pd_int (fun _ _ => rfl)) pd_str (nomark _)) (pssd_one (psd_expr (pd_bm PySem.F.plainAttrs_list PySem.F.slot_list_append PySem.F.type_list_append mt_appendM (pdv 1) (pad_cons (pd_tup (pad_cons (pd_ix ix_G (pdv 0) pd_int (fun _ _ => rfl)) (pad_cons (pd_op op_subD (pd_callB call_lenG rfl T.n_len bt_len (pad_cons (pdv 0) pad_nil)) pd_int) pad_nil))) pad_nil)))) pssd_nil)
    (pssd_cons (psd_for (passes_of rfl) rfl (pid_any (pd_call G_law_items (hr.mono (by omega)) tk rfl (pad_cons (pdv 0) pad_nil))) (pgd_name (pg_name (i := 2) sc_law_uses_in.nd rfl (Or.inl rfl))) (pssd_one (psd_set (i := 1) sc_law_uses_in.nd rfl (Or.inl rfl) (pd_op op_addD (pdv 1) (pd_call G_law_uses_in (hr.mono (by omega)) tk rfl (pad_cons (pdv 2) pad_nil))))))
    (pssd_one (psd_ret (pdv 1)))))))), h⟩
def t_law_uses (K : PySem.W.Frag) (A : Adr) (n : Nat) : DS :=
  (dSeq (dIfS (dB (dOp eqD (dOp ixG (dVar 0) (dC (.int 0))) (dC (.str "is")))) (dRet (dOp addD (dCall (sp_law_uses_in 6) [] (dCons (dOp ixG (dVar 0) (dC (.int 1))) dNil)) (dCall (sp_law_uses_in 6) [] (dCons (dOp ixG (dVar 0) (dC (.int 2))) dNil)))) dNext)
    (dSeq (dIfS (dB (dOp (inG false) (dOp ixG (dVar 0) (dC (.int 0))) (dLst (dCons (dC (.str "and")) (dCons (dC (.str "if")) dNil))))) (dRet (dOp addD (dCall (sp_law_uses n) [] (dCons (dOp ixG (dVar 0) (dC (.int 1))) dNil)) (dCall (sp_law_uses n) [] (dCons (dOp ixG (dVar 0) (dC (.int 2))) dNil)))) dNext)
    (dSeq (dAsg (dLst dNil) (dName 1))
    (dSeq (dIfS (dAnd (dB (dOp eqD (dCB lenG (dCons (dVar 0) dNil)) (dC (.int 4)))) (dNot (dB (dChain (oI0 fun i j => .bl (decide (i ≤ j))) (oI0 fun i j => .bl (decide (i ≤ j))) (dC (.int 1)) (dOp ixG (dVar 0) (dC (.int 2))) (dC (.int 12)))))) (dDrop (dBM "list" appendM (dVar 1) (dCons (dTup (dCons (dC (.str "")) (dCons (dC (.int 0)) dNil))) dNil))) dNext)
    (dSeq (dFor (dIter (dCall (sp_law_uses n) [] (dCons (dOp ixG (dVar 0) (dNeg (dC (.int 1)))) dNil))) (dName 2) (dIfS (dB (dOp neD (dOp ixG (dVar 2) (dC (.int 0))) (dOp ixG (dVar 0) (dC (.int 1))))) (dDrop (dBM "list" appendM (dVar 1) (dCons (dVar 2) dNil))) (dIfS (dB (dOp neD (dOp ixG (dVar 2) (dC (.int 1))) (dCB intG (dCons (dOp (inG false) (dOp ixG (dVar 0) (dC (.int 0))) (dLst (dCons (dC (.str "allrow")) (dCons (dC (.str "somerow")) dNil)))) dNil)))) (dDrop (dBM "list" appendM (dVar 1) (dCons (dTup (dCons (dC (.str "")) (dCons (dC (.int 0)) dNil))) dNil))) dNext)))
    (dRet (dVar 1)))))))
theorem ok_law_uses {f : Addr} {fd : FuncData} {n : Nat} (T : Txt w K mg A) (G_law_uses : FnD P w K mg base (7 + n) "_law_uses" P_law_uses [] (sp_law_uses n)) (G_law_uses_in : FnD P w K mg base 7 "_law_uses_in" P_law_uses_in [] (sp_law_uses_in 6)) (F : L2.Fun K "_law_uses" "_law_uses" s_law_uses f fd) (sp : DSp) (len : ∀ ds M Q E, sp ds M Q E → ds.length = P_law_uses.length) (h : ∀ ds M Q E, sp ds M Q E → t_law_uses K A n (ends Q E) (dstart N_law_uses ds) M) :
    FnOk P w K mg base (L2.CX P w) (7 + n + 1) f fd P_law_uses (liftSp K sp) :=
  okD F sc_law_uses len fun cdv A outer s H E hr tk => ⟨t_law_uses K _ n, (pssd_cons (psd_if (pt_cmpD (op_eqG (u200 hr)) (pd_ix ix_G (pdv 0) pd_int (fun _ _ => rfl)) pd_str (nomark _)) (pssd_one (psd_ret (pd_op op_addD (pd_call G_law_uses_in (hr.mono (by omega)) tk rfl (pad_cons (pd_ix ix_G (pdv 0) pd_int (fun _ _ => rfl)) pad_nil)) (pd_call G_law_uses_in (hr.mono (by omega)) tk rfl (pad_cons (pd_ix ix_G (pdv 0) pd_int (fun _ _ => rfl)) pad_nil))))) pssd_nil)
    (pssd_cons (psd_if (pt_cmpD op_inG (pd_ix ix_G (pdv 0) pd_int (fun _ _ => rfl)) (pd_lst (pad_cons pd_str (pad_cons pd_str pad_nil))) (by with_unfolding_all rfl)) (pssd_one (psd_ret (pd_op op_addD (pd_call G_law_uses (hr.mono (by omega)) tk rfl (pad_cons (pd_ix ix_G (pdv 0) pd_int (fun _ _ => rfl)) pad_nil)) (pd_call G_law_uses (hr.mono (by omega)) tk rfl (pad_cons (pd_ix ix_G (pdv 0) pd_int (fun _ _ => rfl)) pad_nil))))) pssd_nil)
    (pssd_cons (psd_set (i := 1) sc_law_uses.nd rfl (Or.inl rfl) (pd_lst pad_nil))
    (pssd_cons (psd_if (PWD.pt (pwd_and (pt_cmpD (op_eqG (u200 hr)) (pd_callB call_lenG rfl T.n_len bt_len (pad_cons (pdv 0) pad_nil)) pd_int (nomark _)) (pwd_and1 (ptd_not (ptd_chain op_leD op_leD pd_int (pd_ix ix_G (pdv 0) pd_int (fun _ _ => rfl)) pd_int))))) (pssd_one (psd_expr (pd_bm PySem.F.plainAttrs_list PySem.F.slot_list_append PySem.F.type_list_append mt_appendM (pdv 1) (pad_cons (pd_tup (pad_cons pd_str (pad_cons pd_int pad_nil))) pad_nil)))) pssd_nil)
    (pssd_cons (psd_for (passes_of rfl) rfl (pid_any (pd_call G_law_uses (hr.mono (by omega)) tk rfl (pad_cons (pd_ix ix_G (pdv 0) (pd_neg pd_int) (fun _ _ => rfl)) pad_nil))) (pgd_name (pg_name (i := 2) sc_law_uses.nd rfl (Or.inl rfl))) (pssd_one (psd_if (pt_cmpD (op_neG (u200 hr)) (pd_ix ix_G (pdv 2) pd_int (fun _ _ => rfl)) (pd_ix ix_G (pdv 0) pd_int (fun _ _ => rfl)) (nomark _)) (pssd_one (psd_expr (pd_bm PySem.F.plainAttrs_list PySem.F.slot_list_append PySem.F.type_list_append mt_appendM (pdv 1) (pad_cons (pdv 2) pad_nil)))) (pssd_one (psd_if (pt_cmpD (op_neG (u200 hr)) (pd_ix ix_G (pdv 2) pd_int (fun _ _ => rfl)) (pd_callT call_intG rfl T.n_int bt_int (pad_cons (pd_cmp op_inG (pd_ix ix_G (pdv 0) pd_int (fun _ _ => rfl)) (pd_lst (pad_cons pd_str (pad_cons pd_str pad_nil))) (by with_unfolding_all rfl)) pad_nil)) (nomark _)) (pssd_one (psd_expr (pd_bm PySem.F.plainAttrs_list PySem.F.slot_list_append PySem.F.type_list_append mt_appendM (pdv 1) (pad_cons (pd_tup (pad_cons pd_str (pad_cons pd_int pad_nil))) pad_nil)))) pssd_nil)))))
    (pssd_one (psd_ret (pdv 1)))))))), h⟩
def t_law_fits (K : PySem.W.Frag) (A : Adr) : DS :=
  (dSeq (dAsg dDNew (dName 1))
    (dSeq (dFor (dIter (dCall (sp_law_uses 40) [] (dCons (dVar 0) dNil))) (dName 2) (dSeq (dIfS (dOr (dB (dOp eqD (dOp ixG (dVar 2) (dC (.int 0))) (dC (.str "")))) (dB (dOp neD (dDGet2 (dVar 1) (dOp ixG (dVar 2) (dC (.int 0))) (dOp ixG (dVar 2) (dC (.int 1)))) (dOp ixG (dVar 2) (dC (.int 1)))))) (dRet (dC (.bl false))) dNext)
    (dAsg (dOp ixG (dVar 2) (dC (.int 1))) (dGSubD (dVar 1) (dOp ixG (dVar 2) (dC (.int 0)))))))
    (dRet (dC (.bl true)))))
theorem ok_law_fits {f : Addr} {fd : FuncData} (T : Txt w K mg A) (G_law_uses : FnD P w K mg base 47 "_law_uses" P_law_uses [] (sp_law_uses 40)) (F : L2.Fun K "_law_fits" "_law_fits" s_law_fits f fd) (sp : DSp) (len : ∀ ds M Q E, sp ds M Q E → ds.length = P_law_fits.length) (h : ∀ ds M Q E, sp ds M Q E → t_law_fits K A (ends Q E) (dstart N_law_fits ds) M) :
    FnOk P w K mg base (L2.CX P w) (47 + 1) f fd P_law_fits (liftSp K sp) :=
  okD F sc_law_fits len fun cdv A outer s H E hr tk => ⟨t_law_fits K _, (pssd_cons (psd_set (i := 1) sc_law_fits.nd rfl (Or.inl rfl) pd_dnew)
    (pssd_cons (psd_for (passes_of rfl) rfl (pid_any (pd_call G_law_uses (hr.mono (by omega)) tk rfl (pad_cons (pdv 0) pad_nil))) (pgd_name (pg_name (i := 2) sc_law_fits.nd rfl (Or.inl rfl))) (pssd_cons (psd_if (PWD.pt (pwd_or (pt_cmpD (op_eqG (u200 hr)) (pd_ix ix_G (pdv 2) pd_int (fun _ _ => rfl)) pd_str (nomark _)) (pwd_or1 (pt_cmpD (op_neG (u200 hr)) (pd_dget2 (u1 hr) (pdv 1) (pd_ix ix_G (pdv 2) pd_int (fun _ _ => rfl)) (pd_ix ix_G (pdv 2) pd_int (fun _ _ => rfl)) ⟨rfl, rfl, rfl, rfl⟩) (pd_ix ix_G (pdv 2) pd_int (fun _ _ => rfl)) (nomark _))))) (pssd_one (psd_ret pd_bl)) pssd_nil)
    (pssd_one (psd_asg (pd_ix ix_G (pdv 2) pd_int (fun _ _ => rfl)) (pgd_subD (u1 hr) (pdv 1) (pd_ix ix_G (pdv 2) pd_int (fun _ _ => rfl)))))))
    (pssd_one (psd_ret pd_bl)))), h⟩
def t_law_leaves (K : PySem.W.Frag) (A : Adr) (n : Nat) : DS :=
  (dSeq (dIfS (dNot (dTru (dCB (isiG K) (dCons (dVar 0) (dCons (dC (.ty "tuple")) dNil))))) (dRet (dLst (dCons (dVar 1) dNil))) dNext)
    (dSeq (dAsg (dLst dNil) (dName 2))
    (dSeq (dFor (dRng1 (dCons (dCB lenG (dCons (dVar 0) dNil)) dNil)) (dName 3) (dAsg (dOp addD (dVar 2) (dCall (sp_law_leaves n) [] (dCons (dOp ixG (dVar 0) (dVar 3)) (dCons (dOp addD (dVar 1) (dTup (dCons (dVar 3) dNil))) dNil)))) (dName 2)))
    (dRet (dVar 2)))))
theorem ok_law_leaves {f : Addr} {fd : FuncData} {n : Nat} (T : Txt w K mg A) (G_law_leaves : FnD P w K mg base (0 + n) "_law_leaves" P_law_leaves [] (sp_law_leaves n)) (F : L2.Fun K "_law_leaves" "_law_leaves" s_law_leaves f fd) (sp : DSp) (len : ∀ ds M Q E, sp ds M Q E → ds.length = P_law_leaves.length) (h : ∀ ds M Q E, sp ds M Q E → t_law_leaves K A n (ends Q E) (dstart N_law_leaves ds) M) :
    FnOk P w K mg base (L2.CX P w) (0 + n + 1) f fd P_law_leaves (liftSp K sp) :=
  okD F sc_law_leaves len fun cdv A outer s H E hr tk => ⟨t_law_leaves K _ n, (pssd_cons (psd_if (ptd_not (ptd_tru (pd_callB call_isiG rfl T.n_isinstance bt_isinstance (pad_cons (pdv 0) (pad_cons (pd_ty rfl T.n_tuple bt_tuple) pad_nil))))) (pssd_one (psd_ret (pd_lst (pad_cons (pdv 1) pad_nil)))) pssd_nil)
    (pssd_cons (psd_set (i := 2) sc_law_leaves.nd rfl (Or.inl rfl) (pd_lst pad_nil))
    (pssd_cons (psd_for (passes_of rfl) rfl (pid_rng1 rfl T.n_range (pad_cons (pd_callB call_lenG rfl T.n_len bt_len (pad_cons (pdv 0) pad_nil)) pad_nil)) (pgd_name (pg_name (i := 3) sc_law_leaves.nd rfl (Or.inl rfl))) (pssd_one (psd_set (i := 2) sc_law_leaves.nd rfl (Or.inl rfl) (pd_op op_addD (pdv 2) (pd_call G_law_leaves (hr.mono (by omega)) tk rfl (pad_cons (pd_ix ix_G (pdv 0) (pdv 3) (fun _ _ => rfl)) (pad_cons (pd_op op_addD (pdv 1) (pd_tup (pad_cons (pdv 3) pad_nil))) pad_nil)))))))
    (pssd_one (psd_ret (pdv 2)))))), h⟩
def t_law_other_leaf (K : PySem.W.Frag) (A : Adr) : DS :=
  (dSeq (dIfS (dTru (dCB (isiG K) (dCons (dVar 1) (dCons (dC (.ty "int")) dNil)))) (dRet (dOp ixG (dLst (dCons (dCB (mmG fun i j => if j < i then j else i) (dCons (dOp addD (dVar 1) (dC (.int 1))) (dCons (dC (.int 999999999)) dNil))) (dCons (dCB (mmG fun i j => if j > i then j else i) (dCons (dOp (oI0 fun i j => .int (i - j)) (dVar 1) (dC (.int 1))) (dCons (dC (.int 0)) dNil))) (dCons (dCall sp_law_number [] (dCons (dVar 0) dNil)) (dCons (dOp addD (dC (.int 1)) (dCall sp_law_pick [] (dCons (dVar 0) (dCons (dC (.int 12)) dNil)))) dNil))))) (dCall sp_law_pick [] (dCons (dVar 0) (dCons (dC (.int 4)) dNil))))) dNext)
    (dSeq (dIfS (dB (dOp (oI0 fun i j => .bl (decide (j < i))) (dOp ixG (dVar 2) (dNeg (dC (.int 1)))) (dC (.int 0)))) (dRet (dOp ixG (dOp addD (dVar 3) (dLst (dCons (dCall sp_law_new [] (dCons (dVar 0) (dCons (dLst dNil) dNil))) dNil))) (dCall sp_law_pick [] (dCons (dVar 0) (dCons (dOp addD (dCB lenG (dCons (dVar 3) dNil)) (dC (.int 1))) dNil))))) dNext)
    (dSeq (dAsg (dLst (dCons (dLst (dCons (dC (.str "plus")) (dCons (dC (.str "minus")) (dCons (dC (.str "times")) (dCons (dC (.str "div")) (dCons (dC (.str "rem")) (dCons (dC (.str "least")) (dCons (dC (.str "greatest")) (dCons (dC (.str "same")) (dCons (dC (.str "below")) dNil)))))))))) (dCons (dLst (dCons (dC (.str "and")) (dCons (dC (.str "if")) dNil))) dNil))) (dName 4))
    (dSeq (dAsg (dOp addD (dVar 4) (dLst (dCons (dLst (dCons (dC (.str "all")) (dCons (dC (.str "some")) (dCons (dC (.str "allrow")) (dCons (dC (.str "somerow")) dNil))))) (dCons (dLst (dCons (dC (.str "allbelow")) (dCons (dC (.str "somebelow")) dNil))) dNil)))) (dName 4))
    (dSeq (dFor (dIter (dVar 4)) (dName 5) (dIfS (dB (dOp (inG false) (dVar 1) (dVar 5))) (dRet (dOp ixG (dVar 5) (dCall sp_law_pick [] (dCons (dVar 0) (dCons (dCB lenG (dCons (dVar 5) dNil)) dNil))))) dNext))
    (dRet (dVar 1)))))))
theorem ok_law_other_leaf {f : Addr} {fd : FuncData} (T : Txt w K mg A) (G_law_new : FnD P w K mg base 2 "_law_new" P_law_new [] sp_law_new) (G_law_number : FnD P w K mg base 2 "_law_number" P_law_number [] sp_law_number) (G_law_pick : FnD P w K mg base 1 "_law_pick" P_law_pick [] sp_law_pick) (F : L2.Fun K "_law_other_leaf" "_law_other_leaf" s_law_other_leaf f fd) (sp : DSp) (len : ∀ ds M Q E, sp ds M Q E → ds.length = P_law_other_leaf.length) (h : ∀ ds M Q E, sp ds M Q E → t_law_other_leaf K A (ends Q E) (dstart N_law_other_leaf ds) M) :
    FnOk P w K mg base (L2.CX P w) (2 + 1) f fd P_law_other_leaf (liftSp K sp) :=
  okD F sc_law_other_leaf len fun cdv A outer s H E hr tk => ⟨t_law_other_leaf K _, (pssd_cons (psd_if (ptd_tru (pd_callB call_isiG rfl T.n_isinstance bt_isinstance (pad_cons (pdv 1) (pad_cons (pd_ty rfl T.n_int bt_int) pad_nil)))) (pssd_one (psd_ret (pd_ix ix_G (pd_lst (pad_cons (pd_callB (call_minG rfl) rfl T.n_min bt_min (pad_cons (pd_op op_addD (pdv 1) pd_int) (pad_cons pd_int pad_nil))) (pad_cons (pd_callB (call_maxG rfl) rfl T.n_max bt_max (pad_cons (pd_op op_subD (pdv 1) pd_int) (pad_cons pd_int pad_nil))) (pad_cons (pd_call G_law_number (hr.mono (by omega)) tk rfl (pad_cons (pdv 0) pad_nil)) (pad_cons (pd_op op_addD pd_int (pd_call G_law_pick (hr.mono (by omega)) tk rfl (pad_cons (pdv 0) (pad_cons pd_int pad_nil)))) pad_nil))))) (pd_call G_law_pick (hr.mono (by omega)) tk rfl (pad_cons (pdv 0) (pad_cons pd_int pad_nil))) (fun _ _ => rfl)))) pssd_nil)
    (pssd_cons (psd_if (pt_cmpD op_gtD (pd_ix ix_G (pdv 2) (pd_neg pd_int) (fun _ _ => rfl)) pd_int (nomark _)) (pssd_one (psd_ret (pd_ix ix_G (pd_op op_addD (pdv 3) (pd_lst (pad_cons (pd_call G_law_new (hr.mono (by omega)) tk rfl (pad_cons (pdv 0) (pad_cons (pd_lst pad_nil) pad_nil))) pad_nil))) (pd_call G_law_pick (hr.mono (by omega)) tk rfl (pad_cons (pdv 0) (pad_cons (pd_op op_addD (pd_callB call_lenG rfl T.n_len bt_len (pad_cons (pdv 3) pad_nil)) pd_int) pad_nil))) (fun _ _ => rfl)))) pssd_nil)
    (pssd_cons (psd_set (i := 4) sc_law_other_leaf.nd rfl (Or.inl rfl) (pd_lst (pad_cons (pd_lst (pad_cons pd_str (pad_cons pd_str (pad_cons pd_str (pad_cons pd_str (pad_cons pd_str (pad_cons pd_str (pad_cons pd_str (pad_cons pd_str (pad_cons pd_str pad_nil)))))))))) (pad_cons (pd_lst (pad_cons pd_str (pad_cons pd_str pad_nil))) pad_nil))))
    (pssd_cons (psd_set (i := 4) sc_law_other_leaf.nd rfl (Or.inl rfl) (pd_op op_addD (pdv 4) (pd_lst (pad_cons (pd_lst (pad_cons pd_str (pad_cons pd_str (pad_cons pd_str (pad_cons pd_str pad_nil))))) (pad_cons (pd_lst (pad_cons pd_str (pad_cons pd_str pad_nil))) pad_nil)))))
    (pssd_cons (psd_for (passes_of rfl) rfl (pid_any (pdv 4)) (pgd_name (pg_name (i := 5) sc_law_other_leaf.nd rfl (Or.inl rfl))) (pssd_one (psd_if (pt_cmpD op_inG (pdv 1) (pdv 5) (by with_unfolding_all rfl)) (pssd_one (psd_ret (pd_ix ix_G (pdv 5) (pd_call G_law_pick (hr.mono (by omega)) tk rfl (pad_cons (pdv 0) (pad_cons (pd_callB call_lenG rfl T.n_len bt_len (pad_cons (pdv 5) pad_nil)) pad_nil))) (fun _ _ => rfl)))) pssd_nil)))
    (pssd_one (psd_ret (pdv 1)))))))), h⟩
def t_law_changed (K : PySem.W.Frag) (A : Adr) : DS :=
  (dSeq (dAsg (dCall (sp_law_leaves 60) [] (dCons (dVar 1) (dCons (dTup dNil) dNil))) (dName 3))
    (dSeq (dFor (dRng1 (dCons (dC (.int 8)) dNil)) (dName 4) (dSeq (dAsg (dOp ixG (dVar 3) (dCall sp_law_pick [] (dCons (dVar 0) (dCons (dCB lenG (dCons (dVar 3) dNil)) dNil)))) (dName 5))
    (dSeq (dAsg (dVar 1) (dName 6))
    (dSeq (dFor (dIter (dVar 5)) (dName 7) (dAsg (dOp ixG (dVar 6) (dVar 7)) (dName 6)))
    (dSeq (dAsg (dCall (sp_law_put 60) [] (dCons (dVar 1) (dCons (dVar 5) (dCons (dCall sp_law_other_leaf [] (dCons (dVar 0) (dCons (dVar 6) (dCons (dVar 5) (dCons (dVar 2) dNil))))) dNil)))) (dName 8))
    (dIfS (dAnd (dB (dOp neD (dVar 8) (dVar 1))) (dTru (dCall sp_law_fits [] (dCons (dVar 8) dNil)))) (dRet (dVar 8)) dNext))))))
    (dRet (dVar 1))))
theorem ok_law_changed {f : Addr} {fd : FuncData} (T : Txt w K mg A) (G_law_fits : FnD P w K mg base 48 "_law_fits" P_law_fits [] sp_law_fits) (G_law_leaves : FnD P w K mg base 60 "_law_leaves" P_law_leaves [] (sp_law_leaves 60)) (G_law_other_leaf : FnD P w K mg base 3 "_law_other_leaf" P_law_other_leaf [] sp_law_other_leaf) (G_law_pick : FnD P w K mg base 1 "_law_pick" P_law_pick [] sp_law_pick) (G_law_put : FnD P w K mg base 60 "_law_put" P_law_put [] (sp_law_put 60)) (F : L2.Fun K "_law_changed" "_law_changed" s_law_changed f fd) (sp : DSp) (len : ∀ ds M Q E, sp ds M Q E → ds.length = P_law_changed.length) (h : ∀ ds M Q E, sp ds M Q E → t_law_changed K A (ends Q E) (dstart N_law_changed ds) M) :
    FnOk P w K mg base (L2.CX P w) (60 + 1) f fd P_law_changed (liftSp K sp) :=
  okD F sc_law_changed len fun cdv A outer s H E hr tk => ⟨t_law_changed K _, (pssd_cons (psd_set (i := 3) sc_law_changed.nd rfl (Or.inl rfl) (pd_call G_law_leaves (hr.mono (by omega)) tk rfl (pad_cons (pdv 1) (pad_cons (pd_tup pad_nil) pad_nil))))
    (pssd_cons (psd_for (passes_of rfl) rfl (pid_rng1 rfl T.n_range (pad_cons pd_int pad_nil)) (pgd_name (pg_name (i := 4) sc_law_changed.nd rfl (Or.inl rfl))) (pssd_cons (psd_set (i := 5) sc_law_changed.nd rfl (Or.inl rfl) (pd_ix ix_G (pdv 3) (pd_call G_law_pick (hr.mono (by omega)) tk rfl (pad_cons (pdv 0) (pad_cons (pd_callB call_lenG rfl T.n_len bt_len (pad_cons (pdv 3) pad_nil)) pad_nil))) (fun _ _ => rfl)))
    (pssd_cons (psd_set (i := 6) sc_law_changed.nd rfl (Or.inl rfl) (pdv 1))
    (pssd_cons (psd_for (passes_of rfl) rfl (pid_any (pdv 5)) (pgd_name (pg_name (i := 7) sc_law_changed.nd rfl (Or.inl rfl))) (pssd_one (psd_set (i := 6) sc_law_changed.nd rfl (Or.inl rfl) (pd_ix ix_G (pdv 6) (pdv 7) (fun _ _ => rfl)))))
    (pssd_cons (psd_set (i := 8) sc_law_changed.nd rfl (Or.inl rfl) (pd_call G_law_put (hr.mono (by omega)) tk rfl (pad_cons (pdv 1) (pad_cons (pdv 5) (pad_cons (pd_call G_law_other_leaf (hr.mono (by omega)) tk rfl (pad_cons (pdv 0) (pad_cons (pdv 6) (pad_cons (pdv 5) (pad_cons (pdv 2) pad_nil))))) pad_nil)))))
    (pssd_one (psd_if (PWD.pt (pwd_and (pt_cmpD (op_neG (u200 hr)) (pdv 8) (pdv 1) (nomark _)) (pwd_and1 (ptd_tru (pd_call G_law_fits (hr.mono (by omega)) tk rfl (pad_cons (pdv 8) pad_nil)))))) (pssd_one (psd_ret (pdv 8))) pssd_nil)))))))
    (pssd_one (psd_ret (pdv 1))))), h⟩
def t_law (K : PySem.W.Frag) (A : Adr) : DS :=
  (dSeq (dAsg (dCall (sp_law_start K) [] (dCons (dVar 0) dNil)) (dName 1))
    (dSeq (dAsg (dCall sp_law_names [] (dCons (dVar 1) (dCons (dLst dNil) (dCons (dC (.int 5)) dNil)))) (dName 2))
    (dSeq (dAsg dDNew (dName 3))
    (dSeq (dFor (dRng1 (dCons (dC (.int 3)) dNil)) (dName 4) (dAsg (dC (.int 0)) (dGSubD (dVar 3) (dOp ixG (dVar 2) (dVar 4)))))
    (dSeq (dAsg (dC (.int 1)) (dGSubD (dVar 3) (dOp ixG (dVar 2) (dC (.int 3)))))
    (dSeq (dAsg (dOp addD (dC (.int 1)) (dCall sp_law_pick [] (dCons (dVar 1) (dCons (dC (.int 3)) dNil)))) (dGSubD (dVar 3) (dOp ixG (dVar 2) (dC (.int 4)))))
    (dSeq (dAsg (dDisp [((dOp ixG (dVar 2) (dCall sp_law_pick [] (dCons (dVar 1) (dCons (dC (.int 5)) dNil)))), (dTup (dCons (dTup (dCons (dC (.str "a")) dNil)) (dCons (dC (.str "a")) dNil)))), ((dCall sp_law_new [] (dCons (dVar 1) (dCons (dLst dNil) dNil))), (dTup (dCons (dTup (dCons (dC (.str "a")) dNil)) (dCons (dC (.str "a")) dNil))))]) (dName 5))
    (dSeq (dIfS (dB (dOp eqD (dCall sp_law_pick [] (dCons (dVar 1) (dCons (dC (.int 4)) dNil))) (dC (.int 0)))) (dAsg (dCall sp_law_tower [] (dCons (dVar 1) (dCons (dVar 3) (dCons (dVar 5) dNil)))) (dName 6)) (dAsg (dCall (sp_law_met 8) [] (dCons (dVar 1) (dCons (dVar 3) (dCons (dVar 5) (dCons (dCall sp_law_pick [] (dCons (dVar 1) (dCons (dC (.int 6)) dNil))) (dCons (dLst (dCons (dC (.int 3)) dNil)) dNil)))))) (dName 6)))
    (dSeq (dAsg (dCall (sp_law_renamed 40) [] (dCons (dVar 1) (dCons (dVar 6) (dCons dDNew (dCons (dVar 2) dNil))))) (dName 7))
    (dSeq (dAsg (dCall sp_law_changed [] (dCons (dVar 1) (dCons (dVar 6) (dCons (dVar 2) dNil)))) (dName 8))
    (dSeq (dAsg (dLst (dCons (dVar 6) (dCons (dVar 7) (dCons (dVar 8) (dCons (dCall sp_law_changed [] (dCons (dVar 1) (dCons (dVar 7) (dCons (dVar 2) dNil)))) (dCons (dCall (sp_law_renamed 40) [] (dCons (dVar 1) (dCons (dVar 8) (dCons dDNew (dCons (dVar 2) dNil))))) dNil)))))) (dName 9))
    (dSeq (dDrop (dBM "list" appendM (dVar 9) (dCons (dCall (sp_law_met 8) [] (dCons (dVar 1) (dCons (dVar 3) (dCons (dVar 5) (dCons (dCall sp_law_pick [] (dCons (dVar 1) (dCons (dC (.int 3)) dNil))) (dCons (dLst (dCons (dC (.int 1)) dNil)) dNil)))))) dNil)))
    (dSeq (dAsg (dLc (dIter (dVar 9)) (fun d τ => τ.set 14 (some d)) dYes (dCall (sp_law_plain 40) [] (dCons (dVar 14) (dCons dDNew (dCons (dC (.int 0)) dNil)))) [14]) (dName 10))
    (dSeq (dAsg (dLst dNil) (dName 11))
    (dSeq (dFor (dRng1 (dCons (dCB lenG (dCons (dVar 9) dNil)) dNil)) (dName 12) (dAsg (dOp addD (dVar 11) (dLc (dRng1 (dCons (dCB lenG (dCons (dVar 9) dNil)) dNil)) (fun d τ => τ.set 4 (some d)) dYes (dTup (dCons (dVar 12) (dCons (dVar 4) dNil))) [4])) (dName 11)))
    (dSeq (dFor (dIter (dOp addD (dVar 11) (dLst (dCons (dTup (dCons (dC (.int 0)) (dCons (dC (.int 1)) dNil))) (dCons (dTup (dCons (dC (.int 2)) (dCons (dC (.int 0)) dNil))) (dCons (dTup (dCons (dC (.int 3)) (dCons (dC (.int 1)) dNil))) dNil)))))) (dName 13) (dIfS (dNot (dTru (dCall (sp_law_same 4) [] (dCons (dCall sp_are_alike [] (dCons (dOp ixG (dVar 9) (dOp ixG (dVar 13) (dC (.int 0)))) (dCons (dOp ixG (dVar 9) (dOp ixG (dVar 13) (dC (.int 1)))) dNil))) (dCons (dOp eqD (dOp ixG (dVar 10) (dOp ixG (dVar 13) (dC (.int 0)))) (dOp ixG (dVar 10) (dOp ixG (dVar 13) (dC (.int 1))))) dNil))))) (dRet (dC (.bl false))) dNext))
    (dRet (dC (.bl true)))))))))))))))))))
theorem ok_law {f : Addr} {fd : FuncData} (T : Txt w K mg A) (G_law_changed : FnD P w K mg base 61 "_law_changed" P_law_changed [] sp_law_changed) (G_law_met : FnD P w K mg base 14 "_law_met" P_law_met [] (sp_law_met 8)) (G_law_names : FnD P w K mg base 3 "_law_names" P_law_names [] sp_law_names) (G_law_new : FnD P w K mg base 2 "_law_new" P_law_new [] sp_law_new) (G_law_pick : FnD P w K mg base 1 "_law_pick" P_law_pick [] sp_law_pick) (G_law_plain : FnD P w K mg base 47 "_law_plain" P_law_plain [] (sp_law_plain 40)) (G_law_renamed : FnD P w K mg base 87 "_law_renamed" P_law_renamed [] (sp_law_renamed 40)) (G_law_same : FnD P w K mg base 4 "_law_same" P_law_same [] (sp_law_same 4)) (G_law_start : FnD P w K mg base 1 "_law_start" P_law_start [] (sp_law_start K)) (G_law_tower : FnD P w K mg base 48 "_law_tower" P_law_tower [] sp_law_tower) (G_are_alike : FnD P w K mg base 48 "are_alike" P_are_alike [] sp_are_alike) (F : L2.Fun K "law" "law" s_law f fd) (sp : DSp) (len : ∀ ds M Q E, sp ds M Q E → ds.length = P_law.length) (h : ∀ ds M Q E, sp ds M Q E → t_law K A (ends Q E) (dstart N_law ds) M) :
    FnOk P w K mg base (L2.CX P w) (87 + 1) f fd P_law (liftSp K sp) :=
  okD F sc_law len fun cdv A outer s H E hr tk => ⟨t_law K _, (pssd_cons (psd_set (i := 1) sc_law.nd rfl (Or.inl rfl) (pd_call G_law_start (hr.mono (by omega)) tk rfl (pad_cons (pdv 0) pad_nil)))
    (pssd_cons (psd_set (i := 2) sc_law.nd rfl (Or.inl rfl) (pd_call G_law_names (hr.mono (by omega)) tk rfl (pad_cons (pdv 1) (pad_cons (pd_lst pad_nil) (pad_cons pd_int pad_nil)))))
    (pssd_cons (psd_set (i := 3) sc_law.nd rfl (Or.inl rfl) pd_dnew)
    (pssd_cons (psd_for (passes_of rfl) rfl (pid_rng1 rfl T.n_range (pad_cons pd_int pad_nil)) (pgd_name (pg_name (i := 4) sc_law.nd rfl (Or.inl rfl))) (pssd_one (psd_asg pd_int (pgd_subD (u1 hr) (pdv 3) (pd_ix ix_G (pdv 2) (pdv 4) (fun _ _ => rfl))))))
    (pssd_cons (psd_asg pd_int (pgd_subD (u1 hr) (pdv 3) (pd_ix ix_G (pdv 2) pd_int (fun _ _ => rfl))))
    (pssd_cons (psd_asg (pd_op op_addD pd_int (pd_call G_law_pick (hr.mono (by omega)) tk rfl (pad_cons (pdv 1) (pad_cons pd_int pad_nil)))) (pgd_subD (u1 hr) (pdv 3) (pd_ix ix_G (pdv 2) pd_int (fun _ _ => rfl))))
    (pssd_cons (psd_set (i := 5) sc_law.nd rfl (Or.inl rfl) (pd_disp (ppd_cons (pd_ix ix_G (pdv 2) (pd_call G_law_pick (hr.mono (by omega)) tk rfl (pad_cons (pdv 1) (pad_cons pd_int pad_nil))) (fun _ _ => rfl)) (pd_tup (pad_cons (pd_tup (pad_cons pd_str pad_nil)) (pad_cons pd_str pad_nil))) (ppd_cons (pd_call G_law_new (hr.mono (by omega)) tk rfl (pad_cons (pdv 1) (pad_cons (pd_lst pad_nil) pad_nil))) (pd_tup (pad_cons (pd_tup (pad_cons pd_str pad_nil)) (pad_cons pd_str pad_nil))) ppd_nil))))
    (pssd_cons (psd_if (pt_cmpD (op_eqG (u200 hr)) (pd_call G_law_pick (hr.mono (by omega)) tk rfl (pad_cons (pdv 1) (pad_cons pd_int pad_nil))) pd_int (nomark _)) (pssd_one (psd_set (i := 6) sc_law.nd rfl (Or.inl rfl) (pd_call G_law_tower (hr.mono (by omega)) tk rfl (pad_cons (pdv 1) (pad_cons (pdv 3) (pad_cons (pdv 5) pad_nil)))))) (pssd_one (psd_set (i := 6) sc_law.nd rfl (Or.inl rfl) (pd_call G_law_met (hr.mono (by omega)) tk rfl (pad_cons (pdv 1) (pad_cons (pdv 3) (pad_cons (pdv 5) (pad_cons (pd_call G_law_pick (hr.mono (by omega)) tk rfl (pad_cons (pdv 1) (pad_cons pd_int pad_nil))) (pad_cons (pd_lst (pad_cons pd_int pad_nil)) pad_nil)))))))))
    (pssd_cons (psd_set (i := 7) sc_law.nd rfl (Or.inl rfl) (pd_call G_law_renamed (hr.mono (by omega)) tk rfl (pad_cons (pdv 1) (pad_cons (pdv 6) (pad_cons pd_dnew (pad_cons (pdv 2) pad_nil))))))
    (pssd_cons (psd_set (i := 8) sc_law.nd rfl (Or.inl rfl) (pd_call G_law_changed (hr.mono (by omega)) tk rfl (pad_cons (pdv 1) (pad_cons (pdv 6) (pad_cons (pdv 2) pad_nil)))))
    (pssd_cons (psd_set (i := 9) sc_law.nd rfl (Or.inl rfl) (pd_lst (pad_cons (pdv 6) (pad_cons (pdv 7) (pad_cons (pdv 8) (pad_cons (pd_call G_law_changed (hr.mono (by omega)) tk rfl (pad_cons (pdv 1) (pad_cons (pdv 7) (pad_cons (pdv 2) pad_nil)))) (pad_cons (pd_call G_law_renamed (hr.mono (by omega)) tk rfl (pad_cons (pdv 1) (pad_cons (pdv 8) (pad_cons pd_dnew (pad_cons (pdv 2) pad_nil))))) pad_nil)))))))
    (pssd_cons (psd_expr (pd_bm PySem.F.plainAttrs_list PySem.F.slot_list_append PySem.F.type_list_append mt_appendM (pdv 9) (pad_cons (pd_call G_law_met (hr.mono (by omega)) tk rfl (pad_cons (pdv 1) (pad_cons (pdv 3) (pad_cons (pdv 5) (pad_cons (pd_call G_law_pick (hr.mono (by omega)) tk rfl (pad_cons (pdv 1) (pad_cons pd_int pad_nil))) (pad_cons (pd_lst (pad_cons pd_int pad_nil)) pad_nil)))))) pad_nil)))
    (pssd_cons (psd_setLc (own := [("one", 14)]) (i := 14) (j := 10) rfl sc_law.nd rfl rfl (sw_true rfl rfl rfl (by decide +kernel)) (pid_any (pdv 9)) (blkOk_by (N := N_law) (sc := defScope s_law) (by decide +kernel)) (by decide) (fun _ _ _ _ _ => pg_name (i := 14) sc_law.nd rfl (Or.inl rfl)) (fun _ _ _ _ _ => ptsd_nil) (fun _ _ _ _ _ => (pd_call G_law_plain (hr.mono (by omega)) tk0 rfl (pad_cons (pdv 14) (pad_cons pd_dnew (pad_cons pd_int pad_nil))))))
    (pssd_cons (psd_set (i := 11) sc_law.nd rfl (Or.inl rfl) (pd_lst pad_nil))
    (pssd_cons (psd_for (passes_of rfl) rfl (pid_rng1 rfl T.n_range (pad_cons (pd_callB call_lenG rfl T.n_len bt_len (pad_cons (pdv 9) pad_nil)) pad_nil)) (pgd_name (pg_name (i := 12) sc_law.nd rfl (Or.inr rfl))) (pssd_one (psd_set (i := 11) sc_law.nd rfl (Or.inl rfl) (pd_op op_addD (pdv 11) (pd_lc (own := [("k", 4)]) (i := 4) rfl sc_law.nd (pid_rng1 rfl T.n_range (pad_cons (pd_callB call_lenG rfl T.n_len bt_len (pad_cons (pdv 9) pad_nil)) pad_nil)) (blkOk_by (N := N_law) (sc := defScope s_law) (by decide +kernel)) (by decide) (fun _ _ _ _ _ => pg_name (i := 4) sc_law.nd rfl (Or.inl rfl)) (fun _ _ _ _ _ => ptsd_nil) (fun _ _ _ _ _ => (pd_tup (pad_cons (pdv 12) (pad_cons (pdv 4) pad_nil)))))))))
    (pssd_cons (psd_for (passes_of rfl) rfl (pid_any (pd_op op_addD (pdv 11) (pd_lst (pad_cons (pd_tup (pad_cons pd_int (pad_cons pd_int pad_nil))) (pad_cons (pd_tup (pad_cons pd_int (pad_cons pd_int pad_nil))) (pad_cons (pd_tup (pad_cons pd_int (pad_cons pd_int pad_nil))) pad_nil)))))) (pgd_name (pg_name (i := 13) sc_law.nd rfl (Or.inl rfl))) (pssd_one (psd_if (ptd_not (ptd_tru (pd_call G_law_same (hr.mono (by omega)) tk rfl (pad_cons (pd_call G_are_alike (hr.mono (by omega)) tk rfl (pad_cons (pd_ix ix_G (pdv 9) (pd_ix ix_G (pdv 13) pd_int (fun _ _ => rfl)) (fun _ _ => rfl)) (pad_cons (pd_ix ix_G (pdv 9) (pd_ix ix_G (pdv 13) pd_int (fun _ _ => rfl)) (fun _ _ => rfl)) pad_nil))) (pad_cons (pd_cmp (op_eqG (u200 hr)) (pd_ix ix_G (pdv 10) (pd_ix ix_G (pdv 13) pd_int (fun _ _ => rfl)) (fun _ _ => rfl)) (pd_ix ix_G (pdv 10) (pd_ix ix_G (pdv 13) pd_int (fun _ _ => rfl)) (fun _ _ => rfl)) (nomark _)) pad_nil))))) (pssd_one (psd_ret pd_bl)) pssd_nil)))
    (pssd_one (psd_ret pd_bl)))))))))))))))))), h⟩
end
end K06

set_option maxHeartbeats 4000000
namespace K06
open PySem L2 DL
local macro_rules | `(tactic| walk_at "dl") => `(tactic| simp only [dSeq, dIfS, dB, dTru, truD, dOp, dVar, dC, dAsg, dAug, dCB, dCons, dNil, dRet, dRetN, dName, dGSub, dNext, ends, exOf, dstart, slot, oI0, oI, dAnd, dOr, dNot, dAndV, dOrV, dNotV, dNeg, dSl, dNoP, dPart, dFld, dFldS, dRaise, dLst, dTup, dFor, dIter, dRng1, dRng2, dCall, dMake, dMeth, dIxO, dLc, dYes, dGTup, dGCons, dGNil,
  lenG_T, addD_T, addD_int, mulD_int, lstG_T, mulD_T, eqD_T, eqD_int, neD_int, itemsOf_T, keepOf_T, tup_T, tup_T1, tupG_T, intG, List.nil_append, bne_iff_ne,
  List.map, List.length_cons, List.length_nil, List.cons_append, List.append_nil, List.replicate, List.set, List.getElem?_cons_zero, List.getElem?_cons_succ, Option.join_some, Option.bind_some, decide_eq_true_eq])
local macro_rules | `(tactic| walk_at "wp") => `(tactic| simp only [dSeq, dIfS, dB, dOp, dVar, dC, dAsg, dCB, dCons, dNil, dRet, dName, dGSub, dNext, ends, exOf, dstart, slot, oI0, oI, ixG, seqOf, atI, ixN, addD, mulD, intG, lenG, lenD, lstG, tupG, dLst, dTup, dFor, dRng1, dLoop,
  List.map, List.length_cons, List.length_nil, List.append, List.cons_append, List.nil_append, List.replicate, List.set, List.getElem?_cons_zero, List.getElem?_cons_succ, Option.join_some, Option.bind_some, decide_eq_true_eq])
variable {K : PySem.W.Frag} {A : Adr}
theorem cm1 {i : Int} (h : 0 ≤ i) (h2 : i < 4294967299) : CMulX i 48271 := mulx_ok (a := 33) (b := 16) (by omega) (by decide) (by decide)
theorem cm2 {i : Int} (h : 0 ≤ i) (h2 : i < 4294967299) : CMulX i 69621 := mulx_ok (a := 33) (b := 17) (by omega) (by decide) (by decide)
theorem r_law_pick : ∀ ds M Q E, sp_law_pick ds M Q E → t_law_pick K A (ends Q E) (dstart N_law_pick ds) M := by
  rintro ds M Q E ⟨s, l, ns, limit, rfl, ⟨hsl, hl, seed, pos, rest, hs, h1, h2, h3, h4, h5⟩, hlim, hlog, k⟩
  have hls : l ≠ s := Ne.symm hsl
  have fin : ∀ (M' : Mp) (i : Int) (seed pos rest : Int), M' = put M s (.lst [.int seed, .ref l, .int pos, .int rest]) → 0 ≤ seed → seed < 2147483647 → 0 ≤ pos → pos ≤ ns.length → 0 ≤ rest → dropQ Q (.int (i % limit)) M' := by
    rintro M' i seed pos rest rfl h1 h2 h3 h4 h5
    exact dropQ_of (k _ _ (Int.emod_nonneg _ (by omega)) (Int.emod_lt_of_pos _ hlim) (PSt.mk hsl hl h1 h2 h3 h4 h5)) .refl
  unfold t_law_pick N_law_pick
  walk_at "wp"
  have e10 : CPow 10 18 := by unfold CPow; decide
  have tail : ∀ (z : Int) (pos : Int), 0 ≤ pos → pos ≤ ns.length → CMulX (seed + z % 2147483647 + 1) 48271 ∧ CMulX ((seed + z % 2147483647 + 1) * 48271 % 2147483647) 69621 ∧ CDivW (((seed + z % 2147483647 + 1) * 48271 % 2147483647 * 69621 + 12345) % 2147483647) 7 ∧ 0 < limit ∧
      dropQ Q (.int (((seed + z % 2147483647 + 1) * 48271 % 2147483647 * 69621 + 12345) % 2147483647 / 7 % limit)) (put M s (.lst [.int (((seed + z % 2147483647 + 1) * 48271 % 2147483647 * 69621 + 12345) % 2147483647), .ref l, .int pos, .int rest])) := by
    intro z pos h3 h4
    refine ⟨cm1 (by omega) (by omega), cm2 (by omega) (by omega), ⟨by decide, by decide⟩, hlim, ?_⟩
    exact fin _ _ _ _ _ rfl (by omega) (by omega) h3 h4 h5
  by_cases c : limit ≤ rest
  · simp [hs, put_same, c]
    exact ⟨⟨hlim, hlog⟩, hlim, fin _ _ _ _ _ rfl h1 h2 h3 h4 (Int.ediv_nonneg h5 (by omega))⟩
  · by_cases c2 : pos < ns.length
    · have c3 : pos.toNat < ns.length := by omega
      simp [hs, hl, put_same, put_ne hls, put_put, c, c2, h3, List.getElem?_eq_getElem c3, e10]
      split
      · split
        · exact ⟨⟨hlim, hlog⟩, hlim, fin _ _ _ _ _ rfl h1 h2 (by omega) (by omega) (Int.ediv_nonneg (by omega) (by omega))⟩
        · exact tail _ _ (by omega) (by omega)
      · split
        · exact ⟨⟨hlim, hlog⟩, hlim, fin _ _ _ _ _ rfl h1 h2 (by omega) (by omega) (Int.ediv_nonneg (by omega) (by omega))⟩
        · exact tail _ _ (by omega) (by omega)
    · simp [hs, hl, put_same, put_ne hls, put_put, c, c2, e10]
      exact tail 11 _ (by omega) (by omega)
variable {mg : Str → Option Value}
theorem r_law_start : ∀ ds M Q E, sp_law_start1 ds M Q E → t_law_start K A (ends Q E) (dstart N_law_start ds) M := by
  rintro ds M Q E ⟨a, ns, rfl, hM, hl, k⟩
  have hs := seqOf_rol hM
  unfold t_law_start N_law_start
  walk_at "dl"
  rw [lenG_ref hs, List.length_map]
  simp only
  refine ⟨by omega, by omega, ?_⟩
  refine dLoop_inv (fun i τ M' => M' = M ∧ ∃ (seed : Int) (o : Option D), τ = [some (.ref a), some (.int seed), o] ∧ 0 ≤ seed ∧ seed < 2147483647) (fun _ _ _ _ _ => trivial) ?_ ?_ ⟨rfl, 7, _, rfl, by omega, by omega⟩
  · rintro i d τ M nxt hd ⟨rfl, seed, o, rfl, h1, h2⟩ hnx
    obtain ⟨hi, rfl⟩ := rng_at hd
    walk_at "dl"
    refine ⟨cm1 h1 (by omega), ?_⟩
    rw [ixG_ref hs (by omega) (by omega)]
    walk_at "dl"
    refine ⟨by omega, by omega, hnx _ _ ⟨rfl, _, _, rfl, by omega, by omega⟩⟩
  · rintro τ M ⟨rfl, seed, o, rfl, h1, h2⟩
    walk_at "dl"
    simp only [lstG, hs]
    intro l hl0
    refine ⟨by rw [sizeLine_eq]; omega, fun s hs0 => ?_⟩
    have nsl : s ≠ l := by rintro rfl; rw [put_same] at hs0; cases hs0
    refine dropQ_of (k s l _ ?_ ((sub_put hl0).put hs0)) .refl
    exact PSt.mk nsl put_same h1 h2 (by omega) (by omega) (by omega)
theorem r_law_startK : ∀ ds M Q E, sp_law_start2 K ds M Q E → t_law_startK K A (ends Q E) (dstart N_law_start ds) M := by
  rintro ds M Q E ⟨a, ns, rfl, hM, hl, k⟩
  unfold t_law_startK N_law_start
  walk_at "dl"
  refine ⟨ns, hM, by omega, by omega, ?_⟩
  refine dLoop_inv (fun i τ M' => M' = M ∧ ∃ (seed : Int) (o : Option D), τ = [some (.ref a), some (.int seed), o] ∧ 0 ≤ seed ∧ seed < 2147483647) (fun _ _ _ _ _ => trivial) ?_ ?_ ⟨rfl, 7, _, rfl, by omega, by omega⟩
  · rintro i d τ M nxt hd ⟨rfl, seed, o, rfl, h1, h2⟩ hnx
    obtain ⟨hi, rfl⟩ := rng_at hd
    walk_at "dl"
    refine ⟨cm1 h1 (by omega), ?_⟩
    refine ⟨ns, hM, by omega, by omega, ?_⟩
    walk_at "dl"
    refine ⟨by omega, by omega, hnx _ _ ⟨rfl, _, _, rfl, by omega, by omega⟩⟩
  · rintro τ M ⟨rfl, seed, o, rfl, h1, h2⟩
    walk_at "dl"
    refine ⟨ns, hM, fun l hl0 => ?_⟩
    refine ⟨by rw [sizeLine_eq]; omega, fun s hs0 => ?_⟩
    have nsl : s ≠ l := by rintro rfl; rw [put_same] at hs0; cases hs0
    refine dropQ_of (k s l _ ?_ ((sub_put hl0).put hs0)) .refl
    exact PSt.mk nsl put_same h1 h2 (by omega) (by omega) (by omega)
theorem okS_T {n : Nat} {xs : List Int} (h : xs.length ≤ 100000) : okS (n + 1) (T xs) := by
  unfold T
  rw [okS]
  refine ⟨n, rfl, by simpa using h, fun x hx => ?_⟩
  obtain ⟨i, _, rfl⟩ := List.mem_map.mp hx
  simp [okS, ok]
theorem r_law_same {n : Nat} : ∀ ds M Q E, sp_law_same (n + 1) ds M Q E → t_law_same K A n (ends Q E) (dstart N_law_same ds) M := by
  rintro ds M Q E ⟨d, rfl, hd, k⟩
  unfold t_law_same N_law_same
  have t1 : isB "tuple" "tuple" = true := by decide
  cases d with
  | tup xs =>
    rw [okS] at hd
    obtain ⟨m, rfl, hl, hx⟩ := hd
    walk_at "dl"
    simp only [isiG, tyName, t1, List.mem_cons, true_or, or_true, true_and, if_true, lenG, lenD, neD_int, Bool.not_true, Bool.false_eq_true, if_false, decide_true]
    refine ⟨by omega, by omega, fun p hp => ?_⟩
    refine dCL_inv (fun j M' => M' = put M p (.lst (((List.range j).map fun _ => true).map D.bl))) (fun _ _ _ _ => trivial) ?_ ?_ rfl
    · rintro j d M' nxt hd rfl hnx
      obtain ⟨hj, rfl⟩ := rng_at hd
      simp only [wipeD]
      walk_at "dl"
      have e1 : atI xs (j : Int) = some (xs[j]'(by omega)) := atI_nat (List.getElem?_eq_getElem _)
      simp only [ixG, e1, if_true]
      refine ⟨_, rfl, hx _ (List.getElem_mem _), ?_⟩
      simp only [put_same]
      refine ⟨by rw [List.length_map, List.length_map, List.length_range, sizeLine_eq]; omega, hnx _ ?_⟩
      rw [put_put, List.range_succ, List.map_append, List.map_append]
      rfl
    · rintro M' rfl
      unfold allG
      simp only [seqOf, put_same, Option.bind_some, blsOf_range]
      have e : ((List.range ((List.range xs.length).map fun i => D.int (i : Nat)).length).map fun _ => true).all id = true := by simp
      simp only [Int.toNat_natCast]
      rw [e]
      exact dropQ_of k (sub_put hp)
  | non =>
    walk_at "dl"
    simp [isiG, tyName, isB, isG, isNone]
    exact dropQ_of k .refl
  | bl b =>
    walk_at "dl"
    simp [isiG, tyName, isB, isG, isNone, eqD, eqG, eqOk, ok, dep, eqb]
    exact dropQ_of k .refl
  | int b =>
    walk_at "dl"
    simp [isiG, tyName, isB, isG, isNone]
    exact dropQ_of k .refl
  | str b =>
    walk_at "dl"
    simp [isiG, tyName, isB, isG, isNone, eqD, eqG]
    exact dropQ_of k .refl
  | ref b => simp [okS] at hd
  | ty b => simp [okS] at hd
end K06


set_option maxHeartbeats 4000000
namespace K06
open PySem L2 DL
local macro_rules | `(tactic| walk_at "dl") => `(tactic| simp only [dSeq, dIfS, dB, dTru, truD, dOp, dVar, dC, dAsg, dAug, dCB, dCons, dNil, dRet, dRetN, dName, dGSub, dNext, ends, exOf, dstart, slot, oI0, oI, dAnd, dOr, dNot, dAndV, dOrV, dNotV, dNeg, dSl, dNoP, dPart, dFld, dFldS, dRaise, dLst, dTup, dFor, dIter, dRng1, dRng2, dCall, dMake, dMeth, dIxO, dLc, dYes, dGTup, dGCons, dGNil, dDrop, dBreak, dBM, dDIn, dDGet, dDGet2, dDNew, dGSubD, dDStar,
  eqD_str, neD_str, eqD_int, neD_int, ixG_t0, ixG_t1, isiG_str, isi_int, isi_int_s, isi_int_t, isi_tup, isi_tup_s, isi_tup_i, isi_str_i, isi_str_t, lenG_tup, addD_int, mulD_int, intG, List.nil_append, bne_iff_ne, ofS_inj, Bool.false_bne, Bool.true_bne,
  List.map, List.length_cons, List.length_nil, List.cons_append, List.append_nil, List.replicate, List.set, List.getElem?_cons_zero, List.getElem?_cons_succ, Option.join_some, Option.bind_some, decide_eq_true_eq])
variable {K : PySem.W.Frag} {A : Adr}
theorem if_sink {α β : Sort _} {c : Prop} [Decidable c] {f : α → β} {a b : α} : f (if c then a else b) = if c then f a else f b := by split <;> rfl
theorem lit2 : [D.str "call", D.str "look"] = (["call", "look"] : List Str).map D.str := rfl
theorem r_items_start : ∀ ds M Q E, sp_items_start ds M Q E → t_items_start K A (ends Q E) (dstart N_items_start ds) M := by
  rintro ds M Q E ⟨h, r, rfl, k⟩
  unfold t_items_start N_items_start
  walk_at "dl"
  by_cases c : h = "call"
  · simp [c] at k ⊢
    exact dropQ_of k .refl
  · by_cases c2 : h = "look"
    · simp [c2] at k ⊢
      exact dropQ_of k .refl
    · simp [c, c2] at k ⊢
      exact dropQ_of k .refl
theorem r_inner_end : ∀ ds M Q E, sp_inner_end ds M Q E → t_inner_end K A (ends Q E) (dstart N_inner_end ds) M := by
  rintro ds M Q E ⟨h, r, rfl, k⟩
  unfold t_inner_end N_inner_end
  walk_at "dl"
  by_cases c : h = "table"
  · simp [c] at k ⊢
    exact dropQ_of k .refl
  · simp [c] at k ⊢
    exact dropQ_of k .refl
theorem EnvO.rd {M : Mp} {a : Addr} {n : Nat} {o : Str → Option Nat} (h : EnvO M a n o) (x : Str) : ∃ kvs, dictRd (.ref a) M = some kvs ∧ valD kvs (.inr x) = (o x).map fun k => .int ((k : Nat) : Int) := by
  obtain ⟨kvs, h1, h2, h3, h4, h5⟩ := h
  exact ⟨kvs, by simp [dictRd, h1], h4 x⟩
theorem r_same_words : ∀ ds M Q E, sp_same_words ds M Q E → t_same_words K A (ends Q E) (dstart N_same_words ds) M := by
  rintro ds M Q E ⟨x, y, a, b, o1, o2, d, rfl, hx, hy, hd, ha, hb, k⟩
  obtain ⟨k1, e1, v1⟩ := ha.rd x
  obtain ⟨k2, e2, v2⟩ := hb.rd y
  obtain ⟨_, _, _, _, _, l1⟩ := ha
  obtain ⟨_, _, _, _, _, l2⟩ := hb
  unfold t_same_words N_same_words
  walk_at "dl"
  simp only [e1, e2, keyD, v1, v2]
  unfold envO at k
  cases c1 : o1 x with
  | none =>
    cases c2 : o2 y with
    | none =>
      simp only [c1, c2] at k
      simp [c1, c2]
      exact dropQ_of (k _ (by simp)) .refl
    | some j =>
      simp only [c1, c2] at k
      simp [c1, c2]
      exact dropQ_of (k false (by simpa using okw_ne hx (by have := l2 _ _ c2; omega))) .refl
  | some i =>
    have hi := l1 _ _ c1
    cases c2 : o2 y with
    | none =>
      simp only [c1, c2] at k
      simp [c1, c2]
      exact dropQ_of (k false (by simpa using fun z => okw_ne hy (d := i) (by omega) (Eq.symm z))) .refl
    | some j =>
      have hj := l2 _ _ c2
      simp only [c1, c2] at k
      simp [c1, c2, eqD_int]
      refine dropQ_of (k _ ?_) .refl
      rw [decide_eq_true_eq]
      exact ⟨fun e => by have e' : i = j := by omega
                         rw [e'], fun e => by rw [bw_inj i (by omega) j (by omega) e]⟩
/-! ### expressions -/
theorem envO_okw {o : Str → Option Nat} {x : Str} : envO o x = x ∨ ∃ d, envO o x = bw d := by
  unfold envO
  cases o x with
  | none => exact .inl rfl
  | some d => exact .inr ⟨d, rfl⟩
end K06

set_option maxHeartbeats 4000000
namespace K06
open PySem L2 DL
local macro_rules | `(tactic| walk_at "dl") => `(tactic| simp only [dSeq, dIfS, dB, dTru, truD, dOp, dVar, dC, dAsg, dAug, dCB, dCons, dNil, dRet, dRetN, dName, dGSub, dNext, ends, exOf, dstart, slot, oI0, oI, dAnd, dOr, dNot, dAndV, dOrV, dNotV, dNeg, dSl, dNoP, dPart, dFld, dFldS, dRaise, dLst, dTup, dFor, dIter, dRng1, dRng2, dCall, dMake, dMeth, dIxO, dLc, dYes, dGTup, dGCons, dGNil, dDrop, dBreak, dBM, dDIn, dDGet, dDGet2, dDNew, dGSubD, dDStar,
  eqD_str, neD_str, eqD_int, neD_int, ixG_t0, ixG_t1, isiG_str, isi_int, isi_int_s, isi_int_t, isi_tup, isi_tup_s, isi_tup_i, isi_str_i, isi_str_t, lenG_tup, addD_int, mulD_int, intG, List.nil_append, bne_iff_ne, ofS_inj, Bool.false_bne, Bool.true_bne,
  List.map, List.length_cons, List.length_nil, List.cons_append, List.append_nil, List.replicate, List.set, List.getElem?_cons_zero, List.getElem?_cons_succ, Option.join_some, Option.bind_some, decide_eq_true_eq])
variable {K : PySem.W.Frag} {A : Adr}
theorem EnvO.lay {M : Mp} {a p : Addr} {n : Nat} {o : Str → Option Nat} {u : MO} (h : EnvO M a n o) (hp : M p = none) : EnvO (put M p u) a n o := by
  obtain ⟨kvs, h1, r⟩ := h
  refine ⟨kvs, ?_, r⟩
  rw [put_ne]
  · exact h1
  · rintro rfl; rw [h1] at hp; cases hp
theorem alike_loop {n d : Nat} {a b p : Addr} {o1 o2 : Str → Option Nat} {M : Mp} {pre pre' post post' : List D} {xs ys : List Ex} (hpre : pre.length = pre'.length) (hxy : xs.length = ys.length) (hx : Ex.wfs okw xs) (hy : Ex.wfs okw ys) (hd : ∀ x, x ∈ xs → dep x.toD < n) (hd' : d ≤ 60) (h1 : EnvO M a d o1) (h2 : EnvO M b d o2) (hp : M p = none) (hz : xs.length ≤ 1000)
    {τ : Sl} {F : Mp → Prop} (e0 : slot τ 0 = some (.tup (pre ++ (Ex.toDs xs ++ post)))) (e1 : slot τ 1 = some (.tup (pre' ++ (Ex.toDs ys ++ post')))) (e2 : slot τ 2 = some (.ref a)) (e3 : slot τ 3 = some (.ref b)) (hl : 6 < τ.length) {m : Nat} (hm : m = xs.length) {z : Int} (ez : z = pre.length)
    (k : ∀ bs : List Bool, (bs.all id = true ↔ Ex.fills (envO o1) xs = Ex.fills (envO o2) ys) → F (put M p (.lst (bs.map D.bl)))) :
    dCL (fun d τ => τ.set 6 (some d)) dYes (dCall (sp_alike_expressions n) [] (dCons (dOp ixG (dVar 0) (dVar 6)) (dCons (dOp ixG (dVar 1) (dVar 6)) (dCons (dVar 2) (dCons (dVar 3) dNil))))) (fun _ => True) p (wipeD τ [6]) F ((List.range m).map fun k => D.int (z + ((k : Nat) : Int))) (put M p (.lst [])) := by
  subst hm ez
  refine dCL_inv (fun j M' => ∃ bs : List Bool, M' = put M p (.lst (bs.map D.bl)) ∧ bs.length = j ∧ (bs.all id = true ↔ Ex.fills (envO o1) (xs.take j) = Ex.fills (envO o2) (ys.take j))) (fun _ _ _ _ => trivial) ?_ ?_ ⟨[], rfl, rfl, by simp [Ex.fills]⟩
  · rintro j d M' nxt hd0 ⟨bs, rfl, hb, hbs⟩ hnx
    obtain ⟨hj, rfl⟩ := rng_at hd0
    have hj2 : j < ys.length := by omega
    have s0 : slot ((wipeD τ [6]).set 6 (some (.int ((pre.length : Int) + (j : Nat))))) 0 = some (.tup (pre ++ (Ex.toDs xs ++ post))) := by rw [← e0]; simp [slot, wipeD, List.getElem?_set]
    have s1 : slot ((wipeD τ [6]).set 6 (some (.int ((pre.length : Int) + (j : Nat))))) 1 = some (.tup (pre' ++ (Ex.toDs ys ++ post'))) := by rw [← e1]; simp [slot, wipeD, List.getElem?_set]
    have s2 : slot ((wipeD τ [6]).set 6 (some (.int ((pre.length : Int) + (j : Nat))))) 2 = some (.ref a) := by rw [← e2]; simp [slot, wipeD, List.getElem?_set]
    have s3 : slot ((wipeD τ [6]).set 6 (some (.int ((pre.length : Int) + (j : Nat))))) 3 = some (.ref b) := by rw [← e3]; simp [slot, wipeD, List.getElem?_set]
    have s6 : slot ((wipeD τ [6]).set 6 (some (.int ((pre.length : Int) + (j : Nat))))) 6 = some (.int ((pre.length : Int) + (j : Nat))) := by simp [slot, wipeD, hl]
    have g1 : (pre ++ (Ex.toDs xs ++ post))[pre.length + j]? = some (xs[j].toD) := by
      rw [List.getElem?_append_right (by omega), List.getElem?_append_left (by rw [toDs_length]; omega), toDs_map, List.getElem?_map]
      simp [hj]
    have g2 : (pre' ++ (Ex.toDs ys ++ post'))[pre.length + j]? = some (ys[j].toD) := by
      rw [List.getElem?_append_right (by omega), List.getElem?_append_left (by rw [toDs_length]; omega), toDs_map, List.getElem?_map]
      simp [hpre, hj2]
    have i1 : ∀ {M : Mp} {Q : DK}, ixG (.tup (pre ++ (Ex.toDs xs ++ post))) (.int ((pre.length : Int) + (j : Nat))) M Q = Q xs[j].toD M := fun {M Q} => ixG_nat (k := pre.length + j) g1
    have i2 : ∀ {M : Mp} {Q : DK}, ixG (.tup (pre' ++ (Ex.toDs ys ++ post'))) (.int ((pre.length : Int) + (j : Nat))) M Q = Q ys[j].toD M := fun {M Q} => ixG_nat (k := pre.length + j) g2
    simp only [dYes, if_true, dCall, dCons, dOp, dVar, s0, s1, s2, s3, s6, dNil, i1, i2, List.append_nil]
    have wx : xs[j].wf okw := wfs_mem.mp hx _ (List.getElem_mem _)
    have wy : ys[j].wf okw := wfs_mem.mp hy _ (List.getElem_mem _)
    refine ⟨xs[j], ys[j], a, b, o1, o2, _, rfl, wx, wy, hd _ (List.getElem_mem _), hd', h1.lay hp, h2.lay hp, fun r hr => ?_⟩
    simp only [put_same]
    refine ⟨by rw [List.length_map, sizeLine_eq]; omega, hnx _ ⟨bs ++ [r], by rw [put_put, List.map_append]; rfl, by simp [hb], ?_⟩⟩
    rw [List.all_append, Bool.and_eq_true, hbs, List.take_succ, List.take_succ, List.getElem?_eq_getElem hj, List.getElem?_eq_getElem hj2]
    simp only [fills_map, List.map_append, Option.toList_some, List.map_cons, List.map_nil, List.all_cons, List.all_nil, Bool.and_true, id]
    rw [hr]
    constructor
    · rintro ⟨p1, p2⟩; rw [p1, p2]
    · intro q
      have := List.append_inj q (by simp; omega)
      exact ⟨this.1, by simpa using this.2⟩
  · rintro M' ⟨bs, rfl, hb, hbs⟩
    refine k bs ?_
    rw [len_rng, List.take_length, hxy, List.take_length] at hbs
    exact hbs
end K06

set_option maxHeartbeats 4000000
namespace K06
open PySem L2 DL
local macro_rules | `(tactic| walk_at "dl") => `(tactic| simp only [dSeq, dIfS, dB, dTru, truD, dOp, dVar, dC, dAsg, dAug, dCB, dCons, dNil, dRet, dRetN, dName, dGSub, dNext, ends, exOf, dstart, slot, oI0, oI, dAnd, dOr, dNot, dAndV, dOrV, dNotV, dNeg, dSl, dNoP, dPart, dFld, dFldS, dRaise, dLst, dTup, dFor, dIter, dRng1, dRng2, dCall, dMake, dMeth, dIxO, dLc, dYes, dGTup, dGCons, dGNil, dDrop, dBreak, dBM, dDIn, dDGet, dDGet2, dDNew, dGSubD, dDStar,
  eqD_str, neD_str, eqD_int, neD_int, ixG_t0, ixG_t1, isiG_str, isi_int, isi_int_s, isi_int_t, isi_tup, isi_tup_s, isi_tup_i, isi_str_i, isi_str_t, lenG_tup, addD_int, mulD_int, intG, List.nil_append, bne_iff_ne, ofS_inj, Bool.false_bne, Bool.true_bne,
  List.map, List.length_cons, List.length_nil, List.cons_append, List.append_nil, List.replicate, List.set, List.getElem?_cons_zero, List.getElem?_cons_succ, Option.join_some, Option.bind_some, decide_eq_true_eq])
variable {K : PySem.W.Frag} {A : Adr}
theorem okw_oks {x : Str} (h : okw x) : oks x := h.1
theorem nd_shape {h : Str} {nm : Option Str} {xs : List Ex} {tl : Option (List Int × Int)} (w : (Ex.nd h nm xs tl).wf okw) :
    (h = "look" ∧ (∃ x, nm = some x ∧ okw x) ∧ tl = none) ∨ (h = "call" ∧ (∃ x, nm = some x ∧ okw x) ∧ tl = none) ∨ (h = "table" ∧ nm = none ∧ ∃ r i e, tl = some (r, i) ∧ xs = [e]) ∨ (h ≠ "look" ∧ h ≠ "call" ∧ h ≠ "table" ∧ nm = none ∧ tl = none) := by
  simp only [Ex.wf] at w
  obtain ⟨_, w1, w2, w3, w4, _⟩ := w
  by_cases c1 : h = "look"
  · have a1 : nm.isSome = true := w1.mpr (.inr c1)
    have a2 : ¬ tl.isSome = true := fun z => by rw [w3.mp z] at c1; revert c1; decide
    obtain ⟨x, rfl⟩ := Option.isSome_iff_exists.mp a1
    exact .inl ⟨c1, ⟨x, rfl, w2 x rfl⟩, by simpa using a2⟩
  · by_cases c2 : h = "call"
    · have a1 : nm.isSome = true := w1.mpr (.inl c2)
      have a2 : ¬ tl.isSome = true := fun z => by rw [w3.mp z] at c2; revert c2; decide
      obtain ⟨x, rfl⟩ := Option.isSome_iff_exists.mp a1
      exact .inr (.inl ⟨c2, ⟨x, rfl, w2 x rfl⟩, by simpa using a2⟩)
    · have a1 : ¬ nm.isSome = true := fun z => (w1.mp z).elim c2 c1
      by_cases c3 : h = "table"
      · have a2 : tl.isSome = true := w3.mpr c3
        obtain ⟨⟨r, i⟩, rfl⟩ := Option.isSome_iff_exists.mp a2
        obtain ⟨e, rfl⟩ := List.length_eq_one_iff.mp (w4 c3)
        exact .inr (.inr (.inl ⟨c3, by simpa using a1, r, i, e, rfl, rfl⟩))
      · have a2 : ¬ tl.isSome = true := fun z => c3 (w3.mp z)
        exact .inr (.inr (.inr ⟨c1, c2, c3, by simpa using a1, by simpa using a2⟩))
theorem all_end {M : Mp} {p : Addr} {Q : DK} {bs : List Bool} (hp : M p = none) (h : Q (.bl (bs.all id)) M) : allG (fun bs => bs.all id) [.ref p] (put M p (.lst (bs.map D.bl))) (dropQ Q) := by
  unfold allG
  simp only [seqOf, put_same, Option.bind_some, blsOf_map]
  exact dropQ_of h (sub_put hp)
theorem r_alike_expressions {n : Nat} : ∀ ds M Q E, sp_alike_expressions (n + 1) ds M Q E → t_alike_expressions K A n (ends Q E) (dstart N_alike_expressions ds) M := by
  rintro ds M Q E ⟨e, f, a, b, o1, o2, d, rfl, we, wf, hd, hd', h1, h2, k⟩
  unfold t_alike_expressions N_alike_expressions
  cases e with
  | w x =>
    simp only [Ex.wf] at we
    cases f with
    | w y =>
      simp only [Ex.wf] at wf
      simp only [Ex.toD, Ex.fill, Ex.w.injEq] at k ⊢
      walk_at "dl"
      simp
      exact ⟨x, y, a, b, o1, o2, d, rfl, we, wf, hd', h1, h2, fun r hr => dropQ_of (k r hr) .refl⟩
    | n i =>
      simp only [Ex.toD, Ex.fill] at k ⊢
      walk_at "dl"
      simp
      exact dropQ_of (k false (by simp)) .refl
    | nd h' nm' xs' tl' =>
      simp only [Ex.toD, Ex.fill] at k ⊢
      walk_at "dl"
      simp
      exact dropQ_of (k false (by simp)) .refl
  | n i =>
    cases f with
    | w y =>
      have wy : ok (.str y) = true := okw_oks wf
      simp only [Ex.toD, Ex.fill] at k ⊢
      walk_at "dl"
      simp [eqD, eqG, eqOk, dep, eqb, ok_int]
      exact ⟨wy, dropQ_of (k false (by simp)) .refl⟩
    | n j =>
      simp only [Ex.toD, Ex.fill, Ex.n.injEq] at k ⊢
      walk_at "dl"
      simp
      exact dropQ_of (k _ (by simp)) .refl
    | nd h' nm' xs' tl' =>
      have wy := Ex.ok (fun _ h => okw_oks h) _ wf
      simp only [Ex.toD, Ex.fill] at k wy ⊢
      walk_at "dl"
      simp [eqD, eqG, eqOk, dep, eqb, ok_int]
      exact ⟨wy, dropQ_of (k false (by simp)) .refl⟩
  | nd h nm xs tl =>
    have wx := Ex.ok (fun _ h => okw_oks h) _ we
    cases f with
    | w y =>
      have wy : ok (.str y) = true := okw_oks wf
      simp only [Ex.toD, Ex.fill] at k wx ⊢
      walk_at "dl"
      simp [eqD, eqG, eqOk, dep, eqb]
      exact ⟨⟨wx, wy⟩, dropQ_of (k false (by simp)) .refl⟩
    | n j =>
      simp only [Ex.toD, Ex.fill] at k wx ⊢
      walk_at "dl"
      simp [eqD, eqG, eqOk, dep, eqb, ok_int]
      exact ⟨wx, dropQ_of (k false (by simp)) .refl⟩
    | nd h' nm' xs' tl' =>
      by_cases c : h = h'
      rotate_left
      · simp only [Ex.toD]
        walk_at "dl"
        simp [c]
        exact dropQ_of (k false (by simp [Ex.fill, c])) .refl
      subst c
      have wx' := we
      have wf' := wf
      simp only [Ex.wf] at wx' wf'
      have lx := wx'.2.2.2.2.2.1
      have ly := wf'.2.2.2.2.2.1
      have wxs := wx'.2.2.2.2.2.2.2
      have wys := wf'.2.2.2.2.2.2.2
      have hdx : ∀ x, x ∈ xs → dep x.toD < n := fun x hx => by have := nd_dep (h := h) (nm := nm) (tl := tl) hx; omega
      have fil : xs.length ≠ xs'.length → ¬ (Ex.nd h nm xs tl).fill (envO o1) = (Ex.nd h nm' xs' tl').fill (envO o2) := fun q z => by
        simp only [Ex.fill, Ex.nd.injEq, true_and] at z
        have z2 := congrArg List.length z.2.1
        rw [fills_length, fills_length] at z2
        exact q z2
      rcases nd_shape we with ⟨rfl, ⟨x, rfl, ox⟩, rfl⟩ | ⟨rfl, ⟨x, rfl, ox⟩, rfl⟩ | ⟨rfl, rfl, r, i, e, rfl, rfl⟩ | ⟨n1, n2, n3, rfl, rfl⟩
      · rcases nd_shape wf with ⟨_, ⟨y, rfl, oy⟩, rfl⟩ | ⟨z, _⟩ | ⟨z, _⟩ | ⟨z, _⟩
        rotate_left
        · exact absurd z (by decide)
        · exact absurd z (by decide)
        · exact absurd rfl z
        simp only [Ex.toD, nmD, tlD, List.cons_append, List.nil_append, List.append_nil]
        walk_at "dl"
        by_cases cl : xs.length = xs'.length
        rotate_left
        · have cli : ¬ (xs.length : Int) = xs'.length := by omega
          simp [toDs_length, cli]
          exact dropQ_of (k false (by simpa using fil cl)) .refl
        simp [toDs_length, cl]
        refine ⟨x, y, a, b, o1, o2, d, rfl, ox, oy, hd', h1, h2, fun r hr => ?_⟩
        cases r with
        | false =>
          simp
          refine dropQ_of (k false ?_) .refl
          simp [Ex.fill]
          exact fun z => absurd z (by simpa using hr)
        | true =>
          have hr' : envO o1 x = envO o2 y := by simpa using hr
          simp
          refine ⟨_, _, rfl, _, _, rfl, ?_⟩
          simp [ofS_inj, toDs_length, slG]
          have ec : cutD (D.str (Str.ofString "look") :: D.str x :: Ex.toDs xs) (some ((xs.length : Int) + 1 + 1)) none = [] := by
            have := cut_from (xs := D.str (Str.ofString "look") :: D.str x :: Ex.toDs xs) (i := xs.length + 2) (by simp [toDs_length])
            rw [List.drop_eq_nil_of_le (by simp [toDs_length])] at this
            exact this
          have ec' : cutD (D.str (Str.ofString "look") :: D.str y :: Ex.toDs xs') (some ((xs.length : Int) + 1 + 1)) none = [] := by
            have := cut_from (xs := D.str (Str.ofString "look") :: D.str y :: Ex.toDs xs') (i := xs.length + 2) (by simp [toDs_length]; omega)
            rw [List.drop_eq_nil_of_le (by simp [toDs_length]; omega)] at this
            exact this
          simp only [cl] at ec ec' ⊢
          rw [ec, ec']
          simp [neD, eqG, eqOk, ok, okL, dep, depL, eqb, eqbL]
          refine ⟨by omega, by omega, fun p hp => ?_⟩
          refine alike_loop (pre := [.str "look", .str x]) (pre' := [.str "look", .str y]) (post := []) (post' := []) rfl cl wxs wys hdx hd' h1 h2 hp (by omega) (by simp [slot]) (by simp [slot]) rfl rfl (by simp) (by omega) rfl fun bs hbs => all_end hp (k _ ?_)
          rw [hbs]
          simp [Ex.fill, hr']
      · rcases nd_shape wf with ⟨z, _⟩ | ⟨_, ⟨y, rfl, oy⟩, rfl⟩ | ⟨z, _⟩ | ⟨_, z, _⟩
        · exact absurd z (by decide)
        rotate_left
        · exact absurd z (by decide)
        · exact absurd rfl z
        simp only [Ex.toD, nmD, tlD, List.cons_append, List.nil_append, List.append_nil]
        walk_at "dl"
        by_cases cl : xs.length = xs'.length
        rotate_left
        · have cli : ¬ (xs.length : Int) = xs'.length := by omega
          simp [toDs_length, cli]
          exact dropQ_of (k false (by simpa using fil cl)) .refl
        simp [toDs_length, cl, ofS_inj]
        refine ⟨_, _, rfl, _, _, rfl, ?_⟩
        by_cases cx : x = y
        rotate_left
        · simp [ofS_inj, cx]
          exact dropQ_of (k false (by simp [Ex.fill, ofS_inj, cx])) .refl
        subst cx
        simp [ofS_inj, toDs_length, slG]
        have ec : cutD (D.str (Str.ofString "call") :: D.str x :: Ex.toDs xs) (some ((xs.length : Int) + 1 + 1)) none = [] := by
          have := cut_from (xs := D.str (Str.ofString "call") :: D.str x :: Ex.toDs xs) (i := xs.length + 2) (by simp [toDs_length])
          rw [List.drop_eq_nil_of_le (by simp [toDs_length])] at this
          exact this
        have ec' : cutD (D.str (Str.ofString "call") :: D.str x :: Ex.toDs xs') (some ((xs.length : Int) + 1 + 1)) none = [] := by
          have := cut_from (xs := D.str (Str.ofString "call") :: D.str x :: Ex.toDs xs') (i := xs.length + 2) (by simp [toDs_length]; omega)
          rw [List.drop_eq_nil_of_le (by simp [toDs_length]; omega)] at this
          exact this
        simp only [cl] at ec ec' ⊢
        rw [ec, ec']
        simp [neD, eqG, eqOk, ok, okL, dep, depL, eqb, eqbL]
        refine ⟨by omega, by omega, fun p hp => ?_⟩
        refine alike_loop (pre := [.str "call", .str x]) (pre' := [.str "call", .str x]) (post := []) (post' := []) rfl cl wxs wys hdx hd' h1 h2 hp (by omega) (by simp [slot]) (by simp [slot]) rfl rfl (by simp) (by omega) rfl fun bs hbs => all_end hp (k _ ?_)
        rw [hbs]
        simp [Ex.fill, ofS_inj]
      · rcases nd_shape wf with ⟨z, _⟩ | ⟨z, _⟩ | ⟨_, rfl, r', i', e', rfl, rfl⟩ | ⟨_, _, z, _⟩
        · exact absurd z (by decide)
        · exact absurd z (by decide)
        rotate_left
        · exact absurd rfl z
        simp only [Ex.toD, nmD, tlD, List.cons_append, List.nil_append, List.append_nil, Ex.toDs]
        walk_at "dl"
        simp [ofS_inj]
        refine ⟨_, _, rfl, _, _, rfl, ?_⟩
        have ec : ∀ a b c d : D, cutD [a, b, c, d] (some 2) none = [c, d] := fun a b c d => cut_from (xs := [a, b, c, d]) (i := 2) (by simp)
        simp [ofS_inj, toDs_length, slG, ec]
        have ep : ∀ (r : List Int) (i : Int), pureD (.tup [T r, .int i]) = true := fun r i => by simp [pureD, pureL, pureT]
        have eo : ∀ (r : List Int) (i : Int), ok (.tup [T r, .int i]) = true := fun r i => by simp [ok_tup, okL, ok_T, ok_int]
        have eq_iff := eqb_iff _ _ (ep r i) (ep r' i')
        simp only [neD, eqG, eqOk, eo, true_and, dep, depL, dep_T]
        refine ⟨by omega, ?_⟩
        by_cases cq : eqb (.tup [T r, .int i]) (.tup [T r', .int i']) = true
        · have := eq_iff.mp cq
          simp only [D.tup.injEq, List.cons.injEq, T_inj, D.int.injEq, and_true] at this
          obtain ⟨rfl, rfl⟩ := this
          simp [cq]
          intro p hp
          refine alike_loop (pre := [.str "table"]) (pre' := [.str "table"]) (post := [T r, .int i]) (post' := [T r, .int i]) (xs := [e]) (ys := [e']) rfl rfl wxs wys hdx hd' h1 h2 hp (by simp) (by simp [slot, Ex.toDs]) (by simp [slot, Ex.toDs]) rfl rfl (by simp) rfl rfl fun bs hbs => all_end hp (k _ ?_)
          rw [hbs]
          simp [Ex.fill, ofS_inj]
        · simp [cq]
          refine dropQ_of (k false ⟨(fun z => nomatch z), fun z => ?_⟩) .refl
          simp only [Ex.fill, Ex.nd.injEq, Option.some.injEq, Prod.mk.injEq] at z
          obtain ⟨_, _, _, rfl, rfl⟩ := z
          exact absurd (eq_iff.mpr rfl) cq
      · rcases nd_shape wf with ⟨z, _⟩ | ⟨z, _⟩ | ⟨z, _⟩ | ⟨_, _, _, rfl, rfl⟩
        · exact absurd z n1
        · exact absurd z n2
        · exact absurd z n3
        simp only [Ex.toD, nmD, tlD, List.cons_append, List.nil_append, List.append_nil]
        walk_at "dl"
        by_cases cl : xs.length = xs'.length
        rotate_left
        · have cli : ¬ (xs.length : Int) = xs'.length := by omega
          simp [toDs_length, cli]
          exact dropQ_of (k false (by simpa using fil cl)) .refl
        simp [toDs_length, cl, n1]
        refine ⟨_, _, rfl, _, _, rfl, ?_⟩
        simp [n1, n2, n3, toDs_length, slG]
        have ec : cutD (D.str h :: Ex.toDs xs) (some ((xs.length : Int) + 1)) none = [] := by
          have := cut_from (xs := D.str h :: Ex.toDs xs) (i := xs.length + 1) (by simp [toDs_length])
          rw [List.drop_eq_nil_of_le (by simp [toDs_length])] at this
          exact this
        have ec' : cutD (D.str h :: Ex.toDs xs') (some ((xs.length : Int) + 1)) none = [] := by
          have := cut_from (xs := D.str h :: Ex.toDs xs') (i := xs.length + 1) (by simp [toDs_length]; omega)
          rw [List.drop_eq_nil_of_le (by simp [toDs_length]; omega)] at this
          exact this
        simp only [cl] at ec ec' ⊢
        rw [ec, ec']
        simp [neD, eqG, eqOk, ok, okL, dep, depL, eqb, eqbL]
        refine ⟨by omega, by omega, fun p hp => ?_⟩
        refine alike_loop (pre := [.str h]) (pre' := [.str h]) (post := []) (post' := []) rfl cl wxs wys hdx hd' h1 h2 hp (by omega) (by simp [slot]) (by simp [slot]) rfl rfl (by simp) (by omega) rfl fun bs hbs => all_end hp (k _ ?_)
        rw [hbs]
        simp [Ex.fill, n1]
end K06

set_option maxHeartbeats 4000000
namespace K06
open PySem L2 DL
local macro_rules | `(tactic| walk_at "dl") => `(tactic| simp only [dSeq, dIfS, dB, dTru, truD, dOp, dVar, dC, dAsg, dAug, dCB, dCons, dNil, dRet, dRetN, dName, dGSub, dNext, ends, exOf, dstart, slot, oI0, oI, dAnd, dOr, dNot, dAndV, dOrV, dNotV, dNeg, dSl, dNoP, dPart, dFld, dFldS, dRaise, dLst, dTup, dFor, dIter, dRng1, dRng2, dCall, dMake, dMeth, dIxO, dLc, dYes, dGTup, dGCons, dGNil, dDrop, dBreak, dBM, dDIn, dDGet, dDGet2, dDNew, dGSubD,
  eqD_str, neD_str, eqD_int, neD_int, ixG_t0, ixG_t1, isiG_str, isi_int, isi_int_s, isi_int_t, isi_tup, isi_tup_s, isi_tup_i, isi_str_i, isi_str_t, lenG_tup, addD_int, mulD_int, intG, List.nil_append, bne_iff_ne, ofS_inj, Bool.false_bne, Bool.true_bne,
  List.map, List.length_cons, List.length_nil, List.cons_append, List.append_nil, List.replicate, List.set, List.getElem?_cons_zero, List.getElem?_cons_succ, Option.join_some, Option.bind_some, decide_eq_true_eq])
variable {K : PySem.W.Frag} {A : Adr}
/-- the module's dict of binders -/
structure BK (K : PySem.W.Frag) (a : Addr) : Prop where
  yes : ∀ h, h ∈ bkinds → ∃ v, PySem.W.nsIn K a h = some (some v)
  no : ∀ h : Str, (h = "is" ∨ h = "and" ∨ h = "if") → PySem.W.nsIn K a h = some none
theorem lim_ok {lim : Option Int} : ok (.tup (limD lim)) = true ∧ pureD (.tup (limD lim)) = true := by
  cases lim <;> simp [limD, ok_tup, okL, ok_int, pureD, pureL]
theorem lim_eq {l l' : Option Int} : eqb (.tup (limD l)) (.tup (limD l')) = decide (l = l') := by
  rw [Bool.eq_iff_iff, eqb_iff _ _ lim_ok.2 lim_ok.2, decide_eq_true_eq]
  cases l <;> cases l' <;> simp [limD]
theorem lim_ne {l l' : Option Int} {M : Mp} {Q : DK} : neD (.tup (limD l)) (.tup (limD l')) M Q = Q (.bl (!decide (l = l'))) M := by
  have : dep (.tup (limD l)) ≤ 200 := by cases l <;> simp [limD, dep, depL]
  have h2 : min (dep (.tup (limD l))) (dep (.tup (limD l'))) ≤ 200 := Nat.le_trans (Nat.min_le_left _ _) this
  simp only [neD, eqG, eqOk, lim_ok.1, true_and, lim_eq, Bool.true_bne, h2]
def oset (o : Str → Option Nat) (x : Str) (d : Nat) : Str → Option Nat := fun y => if y = x then some d else o y
theorem envO_set {o : Str → Option Nat} {x : Str} {d : Nat} : envO (oset o x d) = (envO o).set x (bw d) := by
  funext y
  unfold envO oset Env.set
  by_cases c : y = x
  · simp [c]
  · simp [c]
theorem EnvO.sub {M M' : Mp} {a : Addr} {n : Nat} {o : Str → Option Nat} (h : EnvO M a n o) (s : Sub M M') : EnvO M' a n o := by
  obtain ⟨kvs, h1, r⟩ := h
  exact ⟨kvs, s _ _ h1, r⟩
theorem EnvO.put {kvs : List (Key × D)} {d : Nat} {o : Str → Option Nat} (h2 : kvs.length ≤ d) (h3 : keysOk kvs) (h4 : ∀ x, valD kvs (.inr x) = (o x).map fun k => .int ((k : Nat) : Int)) (h5 : ∀ x k, o x = some k → k < d) {M : Mp} {p : Addr} {x : Str} (hp : M p = some (.dk (putKD kvs (.inr x) (.int (d : Nat))))) : EnvO M p (d + 1) (oset o x d) := by
  refine ⟨_, hp, Nat.le_trans putKD_length (by omega), keysOk_put h3, fun y => ?_, fun y k hk => ?_⟩
  · rw [valD_put]
    unfold oset
    by_cases c : y = x
    · subst c; simp
    · rw [if_neg c, if_neg (fun z => c (Sum.inr.inj z).symm)]
      exact h4 y
  · unfold oset at hk
    split at hk
    · cases hk; omega
    · have := h5 y k hk; omega
theorem star_env {i j : Nat} {tk : DE} {τ : Sl} {M : Mp} {Q : DK} {E : EK} {a : Addr} {x : Str} {d : Nat} {o : Str → Option Nat} (e1 : slot τ i = some (.ref a)) (hk : ∀ M' Q', Q' (.str x) M' → tk τ M' Q' E) (e4 : slot τ j = some (.int (d : Nat))) (h : EnvO M a d o) (hd : d ≤ 60)
    (k : ∀ p M', M p = none → EnvO M' p (d + 1) (oset o x d) → Sub M M' → Q (.ref p) M') : dDStar (dVar i) tk (dVar j) τ M Q E := by
  obtain ⟨kvs, h1, h2, h3, h4, h5⟩ := h
  intro p hp
  have nap : a ≠ p := by rintro rfl; rw [h1] at hp; cases hp
  simp only [dVar, e1, dictRd, put_ne nap, h1, mergeKD_nil h3, put_put, put_same]
  refine ⟨by simpa using nap, trivial, by omega, fun q hq => ?_⟩
  have npq : p ≠ q := by rintro rfl; rw [put_same] at hq; cases hq
  refine hk _ _ ?_
  simp only [e4, keyD, put_same, put_ne npq]
  refine ⟨trivial, trivial, k p _ hp (EnvO.put h2 h3 h4 h5 put_same) ?_⟩
  refine fun b u hb => ?_
  have nbp : b ≠ p := by rintro rfl; rw [hb] at hp; cases hp
  rw [put_ne nbp]
  have nbq : b ≠ q := by
    rintro rfl
    rw [put_ne nbp, hb] at hq
    cases hq
  rw [put_ne nbq, put_ne nbq, put_ne nbp]
  exact hb
theorem ixG_last2 {x y d : D} {ds : List D} {M : Mp} {Q : DK} : ixG (.tup (x :: y :: (ds ++ [d]))) (.int (-1)) M Q = Q d M := ixG_last (ds := x :: y :: ds)
theorem r_alike_parts {n : Nat} (HB : BK K A.BOUND_KINDS) : ∀ ds M Q E, sp_alike_parts (n + 1) ds M Q E → t_alike_parts K A n (ends Q E) (dstart N_alike_parts ds) M := by
  rintro ds M Q E ⟨s, t, a, b, o1, o2, d, rfl, ws, wt, hd, hd', h1, h2, k⟩
  unfold t_alike_parts N_alike_parts
  cases s with
  | is x y =>
    cases t with
    | is x' y' =>
      simp only [Se.toD]
      simp only [Se.wf] at ws wt
      walk_at "dl"
      simp [inKD, HB.no "is" (.inl rfl), itemsOf]
      refine ⟨by rw [sizeLine_eq]; omega, fun p hp => ?_⟩
      simp [dCL, dYes, keepOf, wipeD, dCall, dCons, dOp, dVar, dNil, slot, ixG_t1, ixG_t2]
      refine ⟨x, x', a, b, o1, o2, d, rfl, ws.1, wt.1, by omega, by omega, h1.lay hp, h2.lay hp, fun r hr => ?_⟩
      simp only [put_same, put_put]
      refine ⟨by rw [sizeLine_eq]; simp, y, y', a, b, o1, o2, d, rfl, ws.2.1, wt.2.1, by omega, by omega, h1.lay hp, h2.lay hp, fun r' hr' => ?_⟩
      simp only [put_same, put_put]
      refine ⟨by rw [sizeLine_eq]; simp, all_end (bs := [r, r']) hp (k _ ?_)⟩
      simp [Se.plain, hr, hr']
    | cn h x' y' =>
      have := cn_ne wt.1
      simp only [Se.toD]
      walk_at "dl"
      simp [fun z => this (Eq.symm z), show ¬ Str.ofString "is" = h from fun z => this (Eq.symm z)]
      exact dropQ_of (k false (by simp [Se.plain])) .refl
    | bd h x' l' s' =>
      have := (bk_ne wt.1).1
      simp only [Se.toD]
      walk_at "dl"
      simp [fun z => this (Eq.symm z), show ¬ Str.ofString "is" = h from fun z => this (Eq.symm z)]
      exact dropQ_of (k false (by simp [Se.plain])) .refl
  | cn h x y =>
    have hc := cn_ne ws.1
    cases t with
    | is x' y' =>
      simp only [Se.toD]
      walk_at "dl"
      simp [hc]
      exact dropQ_of (k false (by simp [Se.plain])) .refl
    | cn h' x' y' =>
      simp only [Se.toD]
      simp only [Se.wf, Se.ht] at ws wt hd hd'
      walk_at "dl"
      by_cases c : h = h'
      rotate_left
      · simp [c]
        exact dropQ_of (k false (by simp [Se.plain, c])) .refl
      subst c
      simp [inKD, HB.no h (.inr ws.1), itemsOf, hc]
      refine ⟨by rw [sizeLine_eq]; omega, fun p hp => ?_⟩
      simp [dCL, dYes, keepOf, wipeD, dCall, dCons, dOp, dVar, dNil, slot, ixG_t1, ixG_t2]
      refine ⟨x, x', a, b, o1, o2, d, rfl, ws.2.1, wt.2.1, by omega, by omega, h1.lay hp, h2.lay hp, fun r hr => ?_⟩
      simp only [put_same, put_put]
      refine ⟨by rw [sizeLine_eq]; simp, y, y', a, b, o1, o2, d, rfl, ws.2.2, wt.2.2, by omega, by omega, h1.lay hp, h2.lay hp, fun r' hr' => ?_⟩
      simp only [put_same, put_put]
      refine ⟨by rw [sizeLine_eq]; simp, all_end (bs := [r, r']) hp (k _ ?_)⟩
      simp [Se.plain, hr, hr']
    | bd h' x' l' s' =>
      have : h ≠ h' := by
        rintro rfl
        rcases ws.1 with z | z
        · exact (bk_ne wt.1).2.1 z
        · exact (bk_ne wt.1).2.2 z
      simp only [Se.toD]
      walk_at "dl"
      simp [this]
      exact dropQ_of (k false (by simp [Se.plain])) .refl
  | bd h x l s =>
    have hc := (bk_ne ws.1).1
    cases t with
    | is x' y' =>
      simp only [Se.toD]
      walk_at "dl"
      simp [hc]
      exact dropQ_of (k false (by simp [Se.plain])) .refl
    | cn h' x' y' =>
      have : h ≠ h' := by
        rintro rfl
        rcases wt.1 with z | z
        · exact (bk_ne ws.1).2.1 z
        · exact (bk_ne ws.1).2.2 z
      simp only [Se.toD]
      walk_at "dl"
      simp [this]
      exact dropQ_of (k false (by simp [Se.plain])) .refl
    | bd h' x' l' s' =>
      simp only [Se.toD]
      simp only [Se.wf, Se.ht] at ws wt hd hd'
      walk_at "dl"
      by_cases c : h = h'
      rotate_left
      · simp [c]
        exact dropQ_of (k false (by simp [Se.plain, c])) .refl
      subst c
      obtain ⟨v, hv⟩ := HB.yes h ws.1
      simp [inKD, hv]
      simp only [slG]
      rw [cut_2m, cut_2m, lim_ne]
      by_cases cl : l = l'
      rotate_left
      · simp [cl]
        exact dropQ_of (k false (by simp [Se.plain, cl])) .refl
      subst cl
      simp
      refine star_env (x := x) rfl (fun M' Q' h => by simp [dOp, dVar, dC, slot, ixG_t1]; exact h) rfl h1 (by omega) fun p M1 hp e1 s1 => ?_
      rw [ixG_last2, ixG_last2]
      refine star_env (x := x') rfl (fun M' Q' h => by simp [dOp, dVar, dC, slot, ixG_t1]; exact h) rfl (h2.sub s1) (by omega) fun q M2 hq e2 s2 => ?_
      have ed : ((d : Int) + 1) = ((d + 1 : Nat) : Int) := by omega
      rw [ed]
      refine ⟨s, s', p, q, _, _, d + 1, rfl, ws.2.2.2, wt.2.2.2, by omega, by omega, e1.sub s2, e2, fun r hr => dropQ_of (k r ?_) (s1.trans s2)⟩
      rw [hr, envO_set, envO_set]
      simp [Se.plain]
theorem EnvO.new {M : Mp} {p : Addr} (h : M p = some (.dk [])) : EnvO M p 0 fun _ => none := ⟨[], h, Nat.le_refl _, keysOk_nil, fun _ => rfl, fun _ _ e => by cases e⟩
theorem envO_none : envO (fun _ => none) = id := rfl
theorem eqD_pure {x y : D} {M : Mp} {Q : DK} (hx : ok x = true) (hy : ok y = true) (px : pureD x = true) (py : pureD y = true) (hd : dep x ≤ 200) (k : ∀ r : Bool, (r = true ↔ x = y) → Q (.bl r) M) : eqD x y M Q := by
  have h1 : eqOk x y := ⟨hx, hy, Nat.le_trans (Nat.min_le_left _ _) hd⟩
  have h2 := k (eqb x y) (eqb_iff x y px py)
  cases x <;> cases y <;> first
    | exact ⟨h1, by simpa [eqb] using h2⟩
    | (simp only [eqD, eqG, Bool.false_bne]; first | exact ⟨h1, h2⟩ | (exact k _ (by simp)))
    | (simp [pureD] at px; done)
    | (simp [pureD] at py; done)
theorem r_are_alike : ∀ ds M Q E, sp_are_alike ds M Q E → t_are_alike K A (ends Q E) (dstart N_are_alike ds) M := by
  rintro ds M Q E ⟨s, t, rfl, ws, wt, hd, k⟩
  have hs := Se.dep_le s ws
  unfold t_are_alike N_are_alike
  walk_at "dl"
  refine eqD_pure (Se.ok (fun _ h => h.1) s ws) (Se.ok (fun _ h => h.1) t wt) (Se.pure s) (Se.pure t) (by omega) fun r hr => ?_
  cases r with
  | true =>
    simp
    have : s = t := Se.inj s t ws wt (hr.mp rfl)
    exact dropQ_of (k true (by simp [this])) .refl
  | false =>
    simp
    intro p hp q hq
    have npq : p ≠ q := by rintro rfl; rw [put_same] at hq; cases hq
    refine ⟨s, t, p, q, _, _, 0, rfl, ws, wt, by omega, by omega, EnvO.new (by rw [put_ne npq, put_same]), EnvO.new put_same, fun r hr => dropQ_of (k r ?_) ((sub_put hp).trans (sub_put hq))⟩
    rw [hr, envO_none]
end K06

set_option maxHeartbeats 4000000
namespace K06
open PySem L2 DL
local macro_rules | `(tactic| walk_at "dl") => `(tactic| simp only [dSeq, dIfS, dB, dTru, truD, dOp, dVar, dC, dAsg, dAug, dCB, dCons, dNil, dRet, dRetN, dName, dGSub, dNext, ends, exOf, dstart, slot, oI0, oI, dAnd, dOr, dNot, dAndV, dOrV, dNotV, dNeg, dSl, dNoP, dPart, dFld, dFldS, dRaise, dLst, dTup, dFor, dIter, dRng1, dRng2, dCall, dMake, dMeth, dIxO, dLc, dYes, dGTup, dGCons, dGNil, dDrop, dBreak, dBM, dDIn, dDGet, dDGet2, dDNew, dGSubD, dDStar,
  eqD_str, neD_str, eqD_int, neD_int, ixG_t0, ixG_t1, isiG_str, isi_int, isi_int_s, isi_int_t, isi_tup, isi_tup_s, isi_tup_i, isi_str_i, isi_str_t, lenG_tup, addD_int, mulD_int, intG, List.nil_append, bne_iff_ne, ofS_inj, Bool.false_bne, Bool.true_bne,
  List.map, List.length_cons, List.length_nil, List.cons_append, List.append_nil, List.replicate, List.set, List.getElem?_cons_zero, List.getElem?_cons_succ, Option.join_some, Option.bind_some, decide_eq_true_eq])
variable {K : PySem.W.Frag} {A : Adr}
theorem fresh_end {Q : DK} {M M1 : Mp} {ds : List D} {p : Addr} (k : Fresh Q M ds) (s : Sub M M1) (hp : M1 p = none) : dropQ Q (.ref p) (put M1 p (.lst ds)) := dropQ_of (k p (s.none hp)) (Sub.both s)
theorem r_law_with : ∀ ds M Q E, sp_law_with ds M Q E → t_law_with K A (ends Q E) (dstart N_law_with ds) M := by
  rintro ds M Q E ⟨a, x, v, kvs, rfl, ha, hl, k⟩
  unfold t_law_with N_law_with
  walk_at "dl"
  simp only [metT, ha, copyM, dictOf, keyD, true_and]
  intro p hp
  simp only [put_same, put_put]
  exact ⟨by rw [sizeLine_eq]; omega, dropQ_of (k p hp) .refl⟩
theorem lits2 : ([D.str "call", D.str "look"] : List D) = (["call", "look"] : List Str).map D.str := rfl
theorem r_law_items : ∀ ds M Q E, sp_law_items ds M Q E → t_law_items K A (ends Q E) (dstart N_law_items ds) M := by
  rintro ds M Q E ⟨h, nm, xs, tl, rfl, w, k⟩
  unfold t_law_items N_law_items
  rcases nd_shape w with ⟨rfl, ⟨x, rfl, ox⟩, rfl⟩ | ⟨rfl, ⟨x, rfl, ox⟩, rfl⟩ | ⟨rfl, rfl, r, i, e, rfl, rfl⟩ | ⟨n1, n2, n3, rfl, rfl⟩
  · simp only [Ex.toD, nmD, tlD, List.cons_append, List.nil_append, List.append_nil]
    walk_at "dl"
    simp [ofS_inj, sizeLine_eq]
    intro p hp
    rw [inG_lit lits2]
    simp [ofS_inj, slG]
    rw [show cutD (D.str (Str.ofString "look") :: D.str x :: Ex.toDs xs) (some 2) none = Ex.toDs xs from cut_from (i := 2) (by simp)]
    simp [lstG]
    exact fun q hq => fresh_end k (sub_put hp) hq
  · simp only [Ex.toD, nmD, tlD, List.cons_append, List.nil_append, List.append_nil]
    walk_at "dl"
    simp [ofS_inj, sizeLine_eq]
    intro p hp
    rw [inG_lit lits2]
    simp [ofS_inj, slG]
    rw [show cutD (D.str (Str.ofString "call") :: D.str x :: Ex.toDs xs) (some 2) none = Ex.toDs xs from cut_from (i := 2) (by simp)]
    simp [lstG]
    exact fun q hq => fresh_end k (sub_put hp) hq
  · simp only [Ex.toD, nmD, tlD, List.cons_append, List.nil_append, List.append_nil, Ex.toDs] at k ⊢
    walk_at "dl"
    simp [ofS_inj, slG]
    rw [show cutD [D.str (Str.ofString "table"), e.toD, T r, .int i] (some 1) (some 2) = [e.toD] from cut_in (i := 1) (j := 2) (by simp)]
    simp [lstG]
    exact fun q hq => fresh_end k .refl hq
  · simp only [Ex.toD, nmD, tlD, List.cons_append, List.nil_append, List.append_nil]
    walk_at "dl"
    simp [n3, sizeLine_eq]
    intro p hp
    rw [inG_lit lits2]
    simp [n1, n2, slG]
    rw [show cutD (D.str h :: Ex.toDs xs) (some 1) none = Ex.toDs xs from cut_from (i := 1) (by simp)]
    simp [lstG]
    exact fun q hq => fresh_end k (sub_put hp) hq
theorem r_law_rebuilt : ∀ ds M Q E, sp_law_rebuilt ds M Q E → t_law_rebuilt K A (ends Q E) (dstart N_law_rebuilt ds) M := by
  rintro ds M Q E ⟨h, nm, xs, tl, ys, a, rfl, w, ha, hy, k⟩
  have w' := w
  simp only [Ex.wf] at w'
  have lx := w'.2.2.2.2.2.1
  unfold t_law_rebuilt N_law_rebuilt
  rcases nd_shape w with ⟨rfl, ⟨x, rfl, ox⟩, rfl⟩ | ⟨rfl, ⟨x, rfl, ox⟩, rfl⟩ | ⟨rfl, rfl, r, i, e, rfl, rfl⟩ | ⟨n1, n2, n3, rfl, rfl⟩
  · simp only [Ex.toD, nmD, tlD, List.cons_append, List.nil_append, List.append_nil] at k ⊢
    walk_at "dl"
    simp [ofS_inj, sizeLine_eq]
    intro p hp
    rw [inG_lit lits2]
    have nap : a ≠ p := by rintro rfl; rw [ha] at hp; cases hp
    simp [ofS_inj, tupG, seqOf, put_ne nap, ha, addD, toDs_length, sizeLine_eq]
    exact ⟨by omega, dropQ_of k (sub_put hp)⟩
  · simp only [Ex.toD, nmD, tlD, List.cons_append, List.nil_append, List.append_nil] at k ⊢
    walk_at "dl"
    simp [ofS_inj, sizeLine_eq]
    intro p hp
    rw [inG_lit lits2]
    have nap : a ≠ p := by rintro rfl; rw [ha] at hp; cases hp
    simp [ofS_inj, tupG, seqOf, put_ne nap, ha, addD, toDs_length, sizeLine_eq]
    exact ⟨by omega, dropQ_of k (sub_put hp)⟩
  · obtain ⟨y, rfl⟩ := List.length_eq_one_iff.mp hy
    simp only [Ex.toD, nmD, tlD, List.cons_append, List.nil_append, List.append_nil, Ex.toDs] at k ha ⊢
    walk_at "dl"
    simp [ofS_inj, ixG, seqOf, ha, atI, ixN, sizeLine_eq]
    exact dropQ_of k .refl
  · simp only [Ex.toD, nmD, tlD, List.cons_append, List.nil_append, List.append_nil] at k ⊢
    walk_at "dl"
    simp [n3, sizeLine_eq]
    intro p hp
    rw [inG_lit lits2]
    have nap : a ≠ p := by rintro rfl; rw [ha] at hp; cases hp
    simp [n1, n2, tupG, seqOf, put_ne nap, ha, addD, toDs_length, sizeLine_eq]
    exact ⟨by omega, dropQ_of k (sub_put hp)⟩
end K06

set_option maxHeartbeats 4000000
namespace K06
open PySem L2 DL
local macro_rules | `(tactic| walk_at "dl") => `(tactic| simp only [dSeq, dIfS, dB, dTru, truD, dOp, dVar, dC, dAsg, dAug, dCB, dCons, dNil, dRet, dRetN, dName, dGSub, dNext, ends, exOf, dstart, slot, oI0, oI, dAnd, dOr, dNot, dAndV, dOrV, dNotV, dNeg, dSl, dNoP, dPart, dFld, dFldS, dRaise, dLst, dTup, dFor, dIter, dRng1, dRng2, dCall, dMake, dMeth, dIxO, dLc, dYes, dGTup, dGCons, dGNil, dDrop, dBreak, dBM, dDIn, dDGet, dDGet2, dDNew, dGSubD, dDStar,
  eqD_str, neD_str, eqD_int, neD_int, ixG_t0, ixG_t1, isiG_str, isi_int, isi_int_s, isi_int_t, isi_tup, isi_tup_s, isi_tup_i, isi_str_i, isi_str_t, lenG_tup, addD_int, mulD_int, intG, List.nil_append, bne_iff_ne, ofS_inj, Bool.false_bne, Bool.true_bne,
  List.map, List.length_cons, List.length_nil, List.cons_append, List.append_nil, List.replicate, List.set, List.getElem?_cons_zero, List.getElem?_cons_succ, Option.join_some, Option.bind_some, decide_eq_true_eq])
variable {K : PySem.W.Frag} {A : Adr}
theorem Sub.lay {M M' : Mp} {p : Addr} {o : MO} (s : Sub M M') (h : M' p = some o) : Sub (put M p o) M' := fun a u e => by
  by_cases c : a = p
  · subst c; rw [put_same] at e; cases e; exact h
  · rw [put_ne c] at e; exact s a u e
theorem fresh_at {Q : DK} {M M1 : Mp} {ds : List D} {p : Addr} (k : Fresh Q M ds) (s : Sub M M1) (z : M p = none) (hp : M1 p = some (.lst ds)) : dropQ Q (.ref p) M1 := dropQ_of (k p z) (Sub.lay s hp)
theorem sub_lay2 {M0 M : Mp} {p : Addr} {o : MO} (s : Sub M0 M) (hp : M p = none) : Sub M0 (put M p o) := s.put hp
theorem at_lay {M : Mp} {p q : Addr} {o u : MO} (h : M q = some u) (hp : M p = none) : put M p o q = some u := by
  rw [put_ne]
  · exact h
  · rintro rfl; rw [h] at hp; cases hp
theorem item_loop {P : D → Prop} {sp : DSp} {xs : List Ex} {B0 : Nat} (hsp : ∀ x, x ∈ xs → ∀ M Q E, (∀ zs : List D, (∀ d, d ∈ zs → P d) → zs.length ≤ szD x.toD → Fresh Q M zs) → sp [x.toD] M Q E)
    {M0 M : Mp} {q p : Addr} {ys : List D} (s : Sub M0 M) (hq : M q = some (.lst (Ex.toDs xs))) (hp : M p = some (.lst ys)) (zp : M0 p = none) (hy : ∀ d, d ∈ ys → P d) (hl : ys.length + szL (Ex.toDs xs) ≤ B0) (hB : B0 ≤ 16777216) {Dn : DN} {e o : Option D}
    (k : ∀ M' p' ys' o', Sub M0 M' → M0 p' = none → M' p' = some (.lst ys') → (∀ d, d ∈ ys' → P d) → ys'.length ≤ B0 → Dn.nx [e, some (.ref p'), o'] M') :
    dLoop (dName 2) (dAsg (dOp addD (dVar 1) (dCall sp [] (dCons (dVar 2) dNil))) (dName 1)) (fun M => seqOf M q = some (Ex.toDs xs)) (Ex.toDs xs) Dn [e, some (.ref p), o] M := by
  refine dLoop_inv (fun i τ M' => Sub M0 M' ∧ M' q = some (.lst (Ex.toDs xs)) ∧ ∃ p' ys' o', τ = [e, some (.ref p'), o'] ∧ M0 p' = none ∧ M' p' = some (.lst ys') ∧ (∀ d, d ∈ ys' → P d) ∧ ys'.length + szL ((Ex.toDs xs).drop i) ≤ B0) (fun _ _ _ _ h => seqOf_lst h.2.1) ?_ ?_ ⟨s, hq, p, ys, o, rfl, zp, hp, hy, by simpa using hl⟩
  · rintro i d τ M' nxt hd ⟨s', hq', p', ys', o', rfl, zp', hp', hy', hl'⟩ hnx
    have hi := (List.getElem?_eq_some_iff.mp hd).1
    have hi2 : i < xs.length := by rw [toDs_length] at hi; exact hi
    have ed : d = xs[i].toD := by
      rw [toDs_map, List.getElem?_map, List.getElem?_eq_getElem hi2] at hd
      simpa using hd.symm
    subst ed
    have hz : szL ((Ex.toDs xs).drop i) = szD xs[i].toD + szL ((Ex.toDs xs).drop (i + 1)) := by
      rw [List.drop_eq_getElem_cons hi, szL]
      congr 2
      simp [toDs_map]
    walk_at "dl"
    refine hsp _ (List.getElem_mem hi2) _ _ _ fun zs hzs hlz r hr => ?_
    have hp2 : put M' r (.lst zs) p' = some (.lst ys') := at_lay hp' hr
    simp only [addD, hp2, put_same]
    refine ⟨by rw [sizeLine_eq]; omega, fun t ht => hnx _ _ ⟨(s'.put hr).put ht, at_lay (at_lay hq' hr) ht, t, ys' ++ zs, _, rfl, (s'.put hr).none ht, put_same, fun d hd => ?_, by rw [List.length_append]; omega⟩⟩
    rcases List.mem_append.mp hd with h | h
    · exact hy' d h
    · exact hzs d h
  · rintro τ M' ⟨s', hq', p', ys', o', rfl, zp', hp', hy', hl'⟩
    exact k M' p' ys' o' s' zp' hp' hy' (by omega)
def isW (d : D) : Prop := ∃ x, d = .str x ∧ okw x
theorem strs_of : ∀ {ds : List D}, (∀ d, d ∈ ds → isW d) → ∃ xs : List Str, ds = xs.map D.str ∧ ∀ x, x ∈ xs → okw x
  | [], _ => ⟨[], rfl, fun _ h => by cases h⟩
  | d :: ds, h => by
    obtain ⟨x, rfl, ox⟩ := h d List.mem_cons_self
    obtain ⟨xs, rfl, oxs⟩ := strs_of fun d hd => h d (List.mem_cons_of_mem _ hd)
    exact ⟨x :: xs, rfl, fun y hy => by
      rcases List.mem_cons.mp hy with rfl | hy
      · exact ox
      · exact oxs y hy⟩
theorem isW_strs {xs : List Str} (h : ∀ x, x ∈ xs → okw x) : ∀ d, d ∈ xs.map D.str → isW d := fun d hd => by
  obtain ⟨x, hx, rfl⟩ := List.mem_map.mp hd
  exact ⟨x, rfl, h x hx⟩
def tailW (n : Nat) : DS := dSeq (dFor (dIter (dCall sp_law_items [] (dCons (dVar 0) dNil))) (dName 2) (dAsg (dOp addD (dVar 1) (dCall (sp_law_words n) [] (dCons (dVar 2) dNil))) (dName 1))) (dRet (dVar 1))
theorem r_law_words {n : Nat} : ∀ ds M Q E, sp_law_words (n + 1) ds M Q E → t_law_words K A n (ends Q E) (dstart N_law_words ds) M := by
  rintro ds M Q E ⟨e, rfl, we, hd, hd3, k⟩
  unfold t_law_words N_law_words
  cases e with
  | w x =>
    simp only [Ex.toD] at k ⊢
    walk_at "dl"
    simp [sizeLine_eq]
    exact fun p hp => fresh_end (k [x] (by simpa [Ex.wf] using we) (by simp [szD])) .refl hp
  | n i =>
    simp only [Ex.toD] at k ⊢
    walk_at "dl"
    simp [sizeLine_eq]
    exact fun p hp => fresh_end (k [] (by simp) (by simp)) .refl hp
  | nd h nm xs tl =>
    have hz := Ex.sz3 we hd3
    have w' := we
    simp only [Ex.wf] at w'
    have hdx : ∀ x, x ∈ xs → dep x.toD < dep (Ex.nd h nm xs tl).toD := fun x hx => nd_dep hx
    have hsz : szD (Ex.nd h nm xs tl).toD = 1 + (szL (nmD nm) + (szL (Ex.toDs xs) + szL (tlD tl))) + 1 := by rw [Ex.toD, szD, szL, szL_app, szL_app, szD]
    have rest : ∀ (M1 : Mp) (p : Addr) (ys : List D) (o : Option D) (e : Option D), Sub M M1 → M p = none → M1 p = some (.lst ys) → (∀ d, d ∈ ys → isW d) → ys.length ≤ szL (nmD nm) → e = some (Ex.nd h nm xs tl).toD →
        tailW n (ends Q E) [e, some (.ref p), o] M1 := by
      rintro M1 p ys o e s zp hp hy hl rfl
      unfold tailW
      simp only [dSeq, dFor, dIter, dCall, dCons, dVar, dNil, slot, List.getElem?_cons_zero, Option.join_some, List.append_nil]
      refine ⟨h, nm, xs, tl, rfl, we, fun q hq => ?_⟩
      simp only [itemsOf, seqOf, put_same, keepOf]
      refine item_loop (B0 := szD (Ex.nd h nm xs tl).toD) (P := isW) (fun x hx M Q E hk => ⟨x, rfl, wfs_mem.mp w'.2.2.2.2.2.2.2 x hx, by have := hdx x hx; omega, by have := hdx x hx; omega, fun zs hzs hl => hk _ (isW_strs hzs) (by simpa using hl)⟩) (s.put hq) put_same (at_lay hp hq) zp hy (by omega) (by omega) fun M' p' ys' o' s' zp' hp' hy' hl' => ?_
      simp only [dRet, dVar, slot, List.getElem?_cons_zero, List.getElem?_cons_succ, Option.join_some, ends]
      obtain ⟨zs, rfl, oz⟩ := strs_of hy'
      exact fresh_at (k zs oz (by simpa using hl')) s' zp' hp'
    show dSeq _ (dSeq _ (dSeq _ (dSeq _ (tailW n)))) (ends Q E) _ M
    simp only [Ex.toD] at rest ⊢
    walk_at "dl"
    simp [sizeLine_eq]
    intro p hp
    by_cases c : h = "look"
    · obtain ⟨x, rfl⟩ := Option.isSome_iff_exists.mp (w'.2.1.mpr (.inr c))
      subst c
      simp [nmD, ixG_t1, metT, put_same, appendM, sizeLine_eq]
      refine rest _ _ _ _ _ (.put2 (.put .refl hp) hp) hp put_same ?_ (by simp [nmD, szL, szD]) rfl
      intro d hd
      simp at hd
      subst hd
      exact ⟨x, rfl, w'.2.2.1 x rfl⟩
    · simp [c]
      exact rest _ _ [] _ _ (.put .refl hp) hp put_same (by simp) (by simp) rfl
def isU (d : D) : Prop := ∃ u, d = useD u
theorem uses_of : ∀ {ds : List D}, (∀ d, d ∈ ds → isU d) → ∃ xs : List (Str × Int), ds = xs.map useD
  | [], _ => ⟨[], rfl⟩
  | d :: ds, h => by
    obtain ⟨x, rfl⟩ := h d List.mem_cons_self
    obtain ⟨xs, rfl⟩ := uses_of fun d hd => h d (List.mem_cons_of_mem _ hd)
    exact ⟨x :: xs, rfl⟩
theorem isU_uses {xs : List (Str × Int)} : ∀ d, d ∈ xs.map useD → isU d := fun d hd => by
  obtain ⟨x, hx, rfl⟩ := List.mem_map.mp hd
  exact ⟨x, rfl⟩
def tailU (n : Nat) : DS := dSeq (dFor (dIter (dCall sp_law_items [] (dCons (dVar 0) dNil))) (dName 2) (dAsg (dOp addD (dVar 1) (dCall (sp_law_uses_in n) [] (dCons (dVar 2) dNil))) (dName 1))) (dRet (dVar 1))
theorem r_law_uses_in {n : Nat} : ∀ ds M Q E, sp_law_uses_in (n + 1) ds M Q E → t_law_uses_in K A n (ends Q E) (dstart N_law_uses_in ds) M := by
  rintro ds M Q E ⟨e, rfl, we, hd, hd3, k⟩
  unfold t_law_uses_in N_law_uses_in
  cases e with
  | w x =>
    simp only [Ex.toD] at k ⊢
    walk_at "dl"
    simp [sizeLine_eq]
    exact fun p hp => fresh_end (k [(x, 0)] (by simp [szD])) .refl hp
  | n i =>
    simp only [Ex.toD] at k ⊢
    walk_at "dl"
    simp [sizeLine_eq]
    exact fun p hp => fresh_end (k [] (by simp)) .refl hp
  | nd h nm xs tl =>
    have hz := Ex.sz3 we hd3
    have w' := we
    simp only [Ex.wf] at w'
    have hdx : ∀ x, x ∈ xs → dep x.toD < dep (Ex.nd h nm xs tl).toD := fun x hx => nd_dep hx
    have hsz : szD (Ex.nd h nm xs tl).toD = 1 + (szL (nmD nm) + (szL (Ex.toDs xs) + szL (tlD tl))) + 1 := by rw [Ex.toD, szD, szL, szL_app, szL_app, szD]
    have rest : ∀ (M1 : Mp) (p : Addr) (ys : List D) (o : Option D) (e : Option D), Sub M M1 → M p = none → M1 p = some (.lst ys) → (∀ d, d ∈ ys → isU d) → ys.length ≤ szL (nmD nm) → e = some (Ex.nd h nm xs tl).toD →
        tailU n (ends Q E) [e, some (.ref p), o] M1 := by
      rintro M1 p ys o e s zp hp hy hl rfl
      unfold tailU
      simp only [dSeq, dFor, dIter, dCall, dCons, dVar, dNil, slot, List.getElem?_cons_zero, Option.join_some, List.append_nil]
      refine ⟨h, nm, xs, tl, rfl, we, fun q hq => ?_⟩
      simp only [itemsOf, seqOf, put_same, keepOf]
      refine item_loop (B0 := szD (Ex.nd h nm xs tl).toD) (P := isU) (fun x hx M Q E hk => ⟨x, rfl, wfs_mem.mp w'.2.2.2.2.2.2.2 x hx, by have := hdx x hx; omega, by have := hdx x hx; omega, fun zs hl => hk _ isU_uses (by simpa using hl)⟩) (s.put hq) put_same (at_lay hp hq) zp hy (by omega) (by omega) fun M' p' ys' o' s' zp' hp' hy' hl' => ?_
      simp only [dRet, dVar, slot, List.getElem?_cons_zero, List.getElem?_cons_succ, Option.join_some, ends]
      obtain ⟨zs, rfl⟩ := uses_of hy'
      exact fresh_at (k zs (by simpa using hl')) s' zp' hp'
    show dSeq _ (dSeq _ (dSeq _ (dSeq _ (tailU n)))) (ends Q E) _ M
    simp only [Ex.toD] at rest ⊢
    walk_at "dl"
    simp [sizeLine_eq]
    intro p hp
    by_cases c : h = "look"
    · obtain ⟨x, rfl⟩ := Option.isSome_iff_exists.mp (w'.2.1.mpr (.inr c))
      subst c
      simp [nmD, ixG_t1, metT, put_same, appendM, sizeLine_eq]
      refine rest _ _ _ _ _ (.put2 (.put .refl hp) hp) hp put_same ?_ (by simp [nmD, szL, szD]) rfl
      intro d hd
      simp at hd
      subst hd
      exact ⟨(x, _), rfl⟩
    · simp [c]
      exact rest _ _ [] _ _ (.put .refl hp) hp put_same (by simp) (by simp) rfl
end K06

set_option maxHeartbeats 4000000
namespace K06
open PySem L2 DL
local macro_rules | `(tactic| walk_at "dl") => `(tactic| simp only [dSeq, dIfS, dB, dTru, truD, dOp, dVar, dC, dAsg, dAug, dCB, dCons, dNil, dRet, dRetN, dName, dGSub, dNext, ends, exOf, dstart, slot, oI0, oI, dAnd, dOr, dNot, dAndV, dOrV, dNotV, dNeg, dSl, dNoP, dPart, dFld, dFldS, dRaise, dLst, dTup, dFor, dIter, dRng1, dRng2, dCall, dMake, dMeth, dIxO, dLc, dYes, dGTup, dGCons, dGNil, dDrop, dBreak, dBM, dDIn, dDGet, dDGet2, dDNew, dGSubD, dDStar,
  eqD_str, neD_str, eqD_int, neD_int, ixG_t0, ixG_t1, isiG_str, isi_int, isi_int_s, isi_int_t, isi_tup, isi_tup_s, isi_tup_i, isi_str_i, isi_str_t, lenG_tup, addD_int, mulD_int, intG, List.nil_append, bne_iff_ne, ofS_inj, Bool.false_bne, Bool.true_bne,
  List.map, List.length_cons, List.length_nil, List.cons_append, List.append_nil, List.replicate, List.set, List.getElem?_cons_zero, List.getElem?_cons_succ, Option.join_some, Option.bind_some, decide_eq_true_eq])
variable {K : PySem.W.Frag} {A : Adr}
theorem EnvS.lay {M : Mp} {a p : Addr} {n : Nat} {env : Env} {u : MO} (h : EnvS M a n env) (hp : M p = none) : EnvS (put M p u) a n env := by
  obtain ⟨kvs, h1, r⟩ := h
  exact ⟨kvs, at_lay h1 hp, r⟩
theorem EnvS.sub {M M' : Mp} {a : Addr} {n : Nat} {env : Env} (h : EnvS M a n env) (s : Sub M M') : EnvS M' a n env := by
  obtain ⟨kvs, h1, r⟩ := h
  exact ⟨kvs, s _ _ h1, r⟩
theorem EnvS.get {M : Mp} {a : Addr} {n : Nat} {env : Env} (h : EnvS M a n env) {x : Str} {Q : DK} (k : Q (.str (env x)) M) : (dictRd (.ref a) M).isSome = true ∧ (match dictRd (.ref a) M, keyD (.str x) with
  | some kvs, some k => Q ((valD kvs k).getD (.str x)) M
  | _, _ => False) := by
  obtain ⟨kvs, h1, h2, h3⟩ := h
  simp only [dictRd, h1, keyD, h3 x]
  exact ⟨rfl, k⟩
theorem r_law_filled {n : Nat} : ∀ ds M Q E, sp_law_filled (n + 1) ds M Q E → t_law_filled K A n (ends Q E) (dstart N_law_filled ds) M := by
  rintro ds M Q E ⟨e, a, m, env, rfl, we, hd, he, k⟩
  unfold t_law_filled N_law_filled
  cases e with
  | w x =>
    simp only [Ex.toD, Ex.fill] at k ⊢
    walk_at "dl"
    simp
    exact he.get (dropQ_of k .refl)
  | n i =>
    simp only [Ex.toD, Ex.fill] at k ⊢
    walk_at "dl"
    simp
    exact dropQ_of k .refl
  | nd h nm xs tl =>
    have w' := we
    simp only [Ex.wf] at w'
    have hdx : ∀ x, x ∈ xs → dep x.toD < n := fun x hx => by have := nd_dep (h := h) (nm := nm) (tl := tl) hx; omega
    refine seq_split (fun τ M' => τ = [some (Ex.nd h nm xs tl).toD, some (.ref a), none, none] ∧ M' = M) ?_ ?_
    rotate_left
    · intro nx hnx
      simp only [Ex.toD] at hnx ⊢
      walk_at "dl"
      simp
      exact hnx _ _ ⟨rfl, rfl⟩
    rintro τ M' ⟨rfl, rfl⟩
    refine seq_split (fun τ M1 => τ = [some (Ex.nd h nm xs tl).toD, some (.ref a), none, none] ∧ M1 = M') ?_ ?_
    rotate_left
    · intro nx hnx
      simp only [Ex.toD] at hnx ⊢
      walk_at "dl"
      simp
      exact hnx _ _ ⟨rfl, rfl⟩
    rintro τ M1 ⟨rfl, rfl⟩
    refine seq_split (fun τ M2 => τ = [some (Ex.nd h nm xs tl).toD, some (.ref a), some (Ex.nd h nm (Ex.fills env xs) tl).toD, none] ∧ Sub M1 M2) ?_ ?_
    rotate_left
    · intro nx hnx
      walk_at "dl"
      refine ⟨h, nm, xs, tl, rfl, we, fun q hq => ?_⟩
      simp only [itemsOf, seqOf, put_same, keepOf]
      intro p hp
      have npq : q ≠ p := by rintro rfl; rw [put_same] at hp; cases hp
      refine dCL_inv (fun j M2 => M2 = put (put M1 q (.lst (Ex.toDs xs))) p (.lst (Ex.toDs (Ex.fills env (xs.take j))))) (fun j M2 _ e => by subst e; simp [put_ne npq, put_same]) ?_ ?_ (by simp [Ex.fills, Ex.toDs])
      · rintro j d M2 nxt hd' rfl hnx'
        have hi := (List.getElem?_eq_some_iff.mp hd').1
        have hi2 : j < xs.length := by rw [toDs_length] at hi; exact hi
        have ed : d = xs[j].toD := by
          rw [toDs_map, List.getElem?_map, List.getElem?_eq_getElem hi2] at hd'
          simpa using hd'.symm
        subst ed
        simp only [dYes, wipeD, if_true]
        walk_at "dl"
        refine ⟨xs[j], a, m, env, rfl, wfs_mem.mp w'.2.2.2.2.2.2.2 _ (List.getElem_mem hi2), hdx _ (List.getElem_mem hi2), (he.lay hq).lay hp, ?_⟩
        simp only [put_same]
        refine ⟨by rw [toDs_length, fills_length, List.length_take, sizeLine_eq]; have := w'.2.2.2.2.2.1; omega, hnx' _ ?_⟩
        rw [put_put, List.take_succ, List.getElem?_eq_getElem hi2]
        simp only [fills_map, toDs_map, List.map_append, Option.toList_some, List.map_cons, List.map_nil]
      · rintro M2 rfl
        rw [toDs_length, List.take_length]
        refine ⟨h, nm, xs, tl, Ex.fills env xs, p, rfl, we, put_same, fills_length _ _, hnx _ _ ⟨rfl, (sub_put hq).trans (sub_put hp)⟩⟩
    rintro τ M2 ⟨rfl, s2⟩
    simp only [Ex.toD, Ex.fill] at k ⊢
    walk_at "dl"
    by_cases c : h = "look"
    · obtain ⟨x, rfl⟩ := Option.isSome_iff_exists.mp (w'.2.1.mpr (.inr c))
      subst c
      obtain rfl : tl = none := by
        rcases nd_shape we with ⟨_, _, z⟩ | ⟨z, _⟩ | ⟨z, _⟩ | ⟨z, _⟩
        · exact z
        · exact absurd z (by decide)
        · exact absurd z (by decide)
        · exact absurd rfl z
      simp [nmD, tlD, ixG_t1, sizeLine_eq] at k ⊢
      obtain ⟨kvs, g1, g2, g3⟩ := he.sub s2
      simp only [dictRd, g1, keyD, g3 x, slG]
      refine ⟨rfl, ?_⟩
      rw [show cutD (D.str (Str.ofString "look") :: D.str x :: Ex.toDs (Ex.fills env xs)) (some 2) none = Ex.toDs (Ex.fills env xs) from cut_from (i := 2) (by simp)]
      simp [addD, sizeLine_eq, toDs_length, fills_length]
      exact ⟨by have := w'.2.2.2.2.2.1; omega, dropQ_of k s2⟩
    · simp [c] at k ⊢
      exact dropQ_of k s2
end K06

set_option maxHeartbeats 4000000
namespace K06
open PySem L2 DL
local macro_rules | `(tactic| walk_at "dl") => `(tactic| simp only [dSeq, dIfS, dB, dTru, truD, dOp, dVar, dC, dAsg, dAug, dCB, dCons, dNil, dRet, dRetN, dName, dGSub, dNext, ends, exOf, dstart, slot, oI0, oI, dAnd, dOr, dNot, dAndV, dOrV, dNotV, dNeg, dSl, dNoP, dPart, dFld, dFldS, dRaise, dLst, dTup, dFor, dIter, dRng1, dRng2, dCall, dMake, dMeth, dIxO, dLc, dYes, dGTup, dGCons, dGNil, dDrop, dBreak, dBM, dDIn, dDGet, dDGet2, dDNew, dGSubD, dDStar,
  eqD_str, neD_str, eqD_int, neD_int, ixG_t0, ixG_t1, isiG_str, isi_int, isi_int_s, isi_int_t, isi_tup, isi_tup_s, isi_tup_i, isi_str_i, isi_str_t, lenG_tup, addD_int, mulD_int, intG, List.nil_append, bne_iff_ne, ofS_inj, Bool.false_bne, Bool.true_bne,
  List.map, List.length_cons, List.length_nil, List.cons_append, List.append_nil, List.replicate, List.set, List.getElem?_cons_zero, List.getElem?_cons_succ, Option.join_some, Option.bind_some, decide_eq_true_eq])
variable {K : PySem.W.Frag} {A : Adr}
theorem lits_ai : ([D.str "and", D.str "if"] : List D) = (["and", "if"] : List Str).map D.str := rfl
theorem EnvS.put {kvs : List (Key × D)} {n : Nat} {env : Env} (h2 : kvs.length ≤ n) (h3 : ∀ x, (valD kvs (.inr x)).getD (.str x) = .str (env x)) {M : Mp} {p : Addr} {x w : Str} (hp : M p = some (.dk (putKD kvs (.inr x) (.str w)))) : EnvS M p (n + 1) (env.set x w) := by
  refine ⟨_, hp, Nat.le_trans putKD_length (by omega), fun y => ?_⟩
  rw [valD_put]
  unfold Env.set
  by_cases c : y = x
  · subst c; simp
  · rw [if_neg c, if_neg (fun z => c (Sum.inr.inj z).symm)]
    exact h3 y
theorem str_small : ∀ d, d < 64 → (("B" : Str)).length + (Str.ofString (toString ((d : Nat) : Int))).length ≤ 100 := by decide +kernel
theorem log64 : ∀ d, d < 64 → (((d : Nat) : Int)).natAbs.log2 < 1920 := by decide +kernel
theorem bw_def {d : Nat} : (("B" : Str) ++ Str.ofString (toString ((d : Nat) : Int))) = bw d := rfl
theorem r_law_plain {n : Nat} : ∀ ds M Q E, sp_law_plain (n + 1) ds M Q E → t_law_plain K A n (ends Q E) (dstart N_law_plain ds) M := by
  rintro ds M Q E ⟨S, a, d, env, rfl, ws, hd, hd', he, k⟩
  unfold t_law_plain N_law_plain
  cases S with
  | is x y =>
    simp only [Se.wf] at ws
    simp only [Se.toD, Se.plain] at k ⊢
    walk_at "dl"
    simp [sizeLine_eq]
    refine ⟨x, a, d, env, rfl, ws.1, by omega, he, ?_⟩
    simp only [ixG_t2]
    exact ⟨y, a, d, env, rfl, ws.2.1, by omega, he, dropQ_of k .refl⟩
  | cn h x y =>
    have hc := cn_ne ws.1
    simp only [Se.wf, Se.ht] at ws hd hd'
    simp only [Se.toD, Se.plain] at k ⊢
    walk_at "dl"
    simp [hc, sizeLine_eq]
    intro p hp
    rw [inG_lit lits_ai]
    have : decide (h ∈ (["and", "if"] : List Str)) = true := by rcases ws.1 with rfl | rfl <;> decide
    rw [this]
    simp
    refine ⟨x, a, d, env, rfl, ws.2.1, by omega, by omega, he.lay hp, ?_⟩
    simp only [ixG_t2]
    exact ⟨y, a, d, env, rfl, ws.2.2, by omega, by omega, he.lay hp, dropQ_of k (sub_put hp)⟩
  | bd h x l s =>
    have hb := bk_ne ws.1
    simp only [Se.wf, Se.ht] at ws hd hd'
    simp only [Se.toD, Se.plain] at k ⊢
    walk_at "dl"
    simp [hb.1, sizeLine_eq]
    intro p hp
    rw [inG_lit lits_ai]
    have : decide (h ∈ (["and", "if"] : List Str)) = false := by simpa using ⟨hb.2.1, hb.2.2⟩
    rw [this]
    simp
    have h64 := str_small d (by omega)
    simp only [strG, addD, sizeLine_eq]
    refine ⟨log64 d (by omega), by omega, ?_⟩
    simp only [slG]
    rw [cut_2m]
    have hl : (limD l).length ≤ 1 := by cases l <;> simp [limD]
    simp
    refine ⟨by omega, ?_⟩
    rw [ixG_last2]
    obtain ⟨kvs, g1, g2, g3⟩ := he.lay hp (u := .lst [.str "and", .str "if"])
    refine ⟨a, x, _, kvs, rfl, g1, by omega, fun q hq => ?_⟩
    have ed : ((d : Int) + 1) = ((d + 1 : Nat) : Int) := by omega
    rw [ed]
    refine ⟨s, q, d + 1, env.set x (bw d), rfl, ws.2.2.2, by omega, by omega, EnvS.put g2 g3 put_same, ?_⟩
    simp
    exact ⟨by omega, dropQ_of k ((sub_put hp).trans (sub_put hq))⟩
end K06

set_option maxHeartbeats 4000000
namespace K06
open PySem L2 DL
local macro_rules | `(tactic| walk_at "dl") => `(tactic| simp only [dSeq, dIfS, dB, dTru, truD, dOp, dVar, dC, dAsg, dAug, dCB, dCons, dNil, dRet, dRetN, dName, dGSub, dNext, ends, exOf, dstart, slot, oI0, oI, dAnd, dOr, dNot, dAndV, dOrV, dNotV, dNeg, dSl, dNoP, dPart, dFld, dFldS, dRaise, dLst, dTup, dFor, dIter, dRng1, dRng2, dCall, dMake, dMeth, dIxO, dLc, dYes, dGTup, dGCons, dGNil, dDrop, dBreak, dBM, dDIn, dDGet, dDGet2, dDNew, dGSubD, dDStar,
  eqD_str, neD_str, eqD_int, neD_int, ixG_t0, ixG_t1, isiG_str, isi_int, isi_int_s, isi_int_t, isi_tup, isi_tup_s, isi_tup_i, isi_str_i, isi_str_t, lenG_tup, addD_int, mulD_int, intG, List.nil_append, bne_iff_ne, ofS_inj, Bool.false_bne, Bool.true_bne,
  List.map, List.length_cons, List.length_nil, List.cons_append, List.append_nil, List.replicate, List.set, List.getElem?_cons_zero, List.getElem?_cons_succ, Option.join_some, Option.bind_some, decide_eq_true_eq])
variable {K : PySem.W.Frag} {A : Adr}
theorem strs_at {zs : List Str} {j : Nat} {d : D} (h : (zs.map D.str)[j]? = some d) : ∃ hj : j < zs.length, d = .str zs[j] := by
  have h1 := (List.getElem?_eq_some_iff.mp h).1
  rw [List.length_map] at h1
  refine ⟨h1, ?_⟩
  rw [List.getElem?_map, List.getElem?_eq_getElem h1] at h
  simpa using h.symm
theorem is_sz {a b : Ex} : szD (Se.is a b).toD = szD a.toD + szD b.toD + 2 := by simp only [Se.toD, szD, szL]; omega
theorem cn_sz {h : Str} {a b : Se} : szD (Se.cn h a b).toD = szD a.toD + szD b.toD + 2 := by simp only [Se.toD, szD, szL]; omega
theorem bd_sz {h x : Str} {l : Option Int} {s : Se} : szD (Se.bd h x l s).toD = szD s.toD + szL (limD l) + 3 := by simp only [Se.toD, szD, szL, szL_app]; omega
/-- two lists made one behind the other and joined -/
theorem join_end {Q : DK} {M0 M : Mp} {xs ys : List D} {p q : Addr} (k : Fresh Q M0 (xs ++ ys)) (s : Sub M0 M) (hp : M p = none) (hq : put M p (.lst xs) q = none) (hl : xs.length + ys.length ≤ 16777216) : addD (.ref p) (.ref q) (put (put M p (.lst xs)) q (.lst ys)) (dropQ Q) := by
  have h1 : put (put M p (.lst xs)) q (.lst ys) p = some (.lst xs) := at_lay put_same hq
  simp only [addD, h1, put_same]
  exact ⟨by rw [sizeLine_eq]; omega, fun r hr => fresh_end k (s.trans ((sub_put hp).trans (sub_put hq))) hr⟩
theorem r_law_free {n : Nat} : ∀ ds M Q E, sp_law_free (n + 1) ds M Q E → t_law_free K A n (ends Q E) (dstart N_law_free ds) M := by
  rintro ds M Q E ⟨S, rfl, ws, hd, hz, k⟩
  unfold B at hz
  unfold t_law_free N_law_free
  cases S with
  | is x y =>
    rw [is_sz] at k hz
    simp only [Se.wf] at ws
    simp only [Se.toD] at k ⊢
    walk_at "dl"
    simp
    refine ⟨x, rfl, ws.1, by omega, ws.2.2.1, fun xs hx lx p hp => ?_⟩
    simp only [ixG_t2]
    refine ⟨y, rfl, ws.2.1, by omega, ws.2.2.2, fun ys hy ly q hq => ?_⟩
    have k' := k (xs ++ ys) (fun z hz => (List.mem_append.mp hz).elim (hx z) (hy z)) (by rw [List.length_append]; omega)
    rw [List.map_append] at k'
    exact join_end k' .refl hp hq (by simp; omega)
  | cn h x y =>
    have hc := cn_ne ws.1
    rw [cn_sz] at k hz
    simp only [Se.wf, Se.ht] at ws hd
    simp only [Se.toD] at k ⊢
    walk_at "dl"
    simp [hc, sizeLine_eq]
    intro p0 hp0
    rw [inG_lit lits_ai]
    have : decide (h ∈ (["and", "if"] : List Str)) = true := by rcases ws.1 with rfl | rfl <;> decide
    rw [this]
    simp
    refine ⟨x, rfl, ws.2.1, by omega, by unfold B; omega, fun xs hx lx p hp => ?_⟩
    simp only [ixG_t2]
    refine ⟨y, rfl, ws.2.2, by omega, by unfold B; omega, fun ys hy ly q hq => ?_⟩
    have k' := k (xs ++ ys) (fun z hz => (List.mem_append.mp hz).elim (hx z) (hy z)) (by rw [List.length_append]; omega)
    rw [List.map_append] at k'
    exact join_end k' (sub_put hp0) hp hq (by simp; omega)
  | bd h x l s =>
    have hb := bk_ne ws.1
    rw [bd_sz] at k hz
    simp only [Se.wf, Se.ht] at ws hd
    simp only [Se.toD] at k ⊢
    walk_at "dl"
    simp [hb.1, sizeLine_eq]
    intro p0 hp0
    rw [inG_lit lits_ai]
    have : decide (h ∈ (["and", "if"] : List Str)) = false := by simpa using ⟨hb.2.1, hb.2.2⟩
    rw [this]
    simp
    rw [ixG_last2]
    refine ⟨s, rfl, ws.2.2.2, by omega, by unfold B; omega, fun zs hzs lz q hq => ?_⟩
    simp only [itemsOf, seqOf, put_same, keepOf]
    intro p hp
    have npq : q ≠ p := by rintro rfl; rw [put_same] at hp; cases hp
    generalize hM1 : put (put M p0 (.lst [.str "and", .str "if"])) q (.lst (zs.map D.str)) = M1 at hp ⊢
    have hq1 : M1 q = some (.lst (zs.map D.str)) := by rw [← hM1, put_same]
    have s1 : Sub M M1 := by rw [← hM1]; exact (sub_put hp0).trans (sub_put hq)
    refine dCL_inv (fun j M2 => ∃ ys : List Str, M2 = put M1 p (.lst (ys.map D.str)) ∧ (∀ y, y ∈ ys → okw y) ∧ ys.length ≤ j) (fun j M2 _ ⟨ys, e, _⟩ => by subst e; simp [put_ne npq, hq1]) ?_ ?_ ⟨[], rfl, (fun _ h => by cases h), Nat.le_refl _⟩
    · rintro j d M2 nxt hd' ⟨ys, rfl, hy, hl⟩ hnx
      obtain ⟨hj, rfl⟩ := strs_at hd'
      have hj' : j < 2000000 := by omega
      simp only [wipeD]
      walk_at "dl"
      simp
      by_cases c : zs[j] = x
      · simp [c]
        exact hnx _ ⟨ys, rfl, hy, by omega⟩
      · simp [c, put_same, sizeLine_eq]
        refine ⟨by omega, hnx _ ⟨ys ++ [zs[j]], by simp [put_put], fun y h => ?_, by simp; omega⟩⟩
        rcases List.mem_append.mp h with h | h
        · exact hy y h
        · simp at h; subst h; exact hzs _ (List.getElem_mem hj)
    · rintro M2 ⟨ys, rfl, hy, hl⟩
      rw [List.length_map] at hl
      exact fresh_end (k ys hy (by omega)) s1 hp
end K06

set_option maxHeartbeats 4000000
namespace K06
open PySem L2 DL
local macro_rules | `(tactic| walk_at "dl") => `(tactic| simp only [dSeq, dIfS, dB, dTru, truD, dOp, dVar, dC, dAsg, dAug, dCB, dCons, dNil, dRet, dRetN, dName, dGSub, dNext, ends, exOf, dstart, slot, oI0, oI, dAnd, dOr, dNot, dAndV, dOrV, dNotV, dNeg, dSl, dNoP, dPart, dFld, dFldS, dRaise, dLst, dTup, dFor, dIter, dRng1, dRng2, dCall, dMake, dMeth, dIxO, dLc, dYes, dGTup, dGCons, dGNil, dDrop, dBreak, dBM, dDIn, dDGet, dDGet2, dDNew, dGSubD, dDStar,
  eqD_str, neD_str, eqD_int, neD_int, ixG_t0, ixG_t1, isiG_str, isi_int, isi_int_s, isi_int_t, isi_tup, isi_tup_s, isi_tup_i, isi_str_i, isi_str_t, lenG_tup, addD_int, mulD_int, intG, List.nil_append, bne_iff_ne, ofS_inj, Bool.false_bne, Bool.true_bne,
  List.map, List.length_cons, List.length_nil, List.cons_append, List.append_nil, List.replicate, List.set, List.getElem?_cons_zero, List.getElem?_cons_succ, Option.join_some, Option.bind_some, decide_eq_true_eq])
variable {K : PySem.W.Frag} {A : Adr}
theorem uses_at {zs : List (Str × Int)} {j : Nat} {d : D} (h : (zs.map useD)[j]? = some d) : ∃ hj : j < zs.length, d = useD zs[j] := by
  have h1 := (List.getElem?_eq_some_iff.mp h).1
  rw [List.length_map] at h1
  refine ⟨h1, ?_⟩
  rw [List.getElem?_map, List.getElem?_eq_getElem h1] at h
  simpa using h.symm
theorem lits_ar : ([D.str "allrow", D.str "somerow"] : List D) = (["allrow", "somerow"] : List Str).map D.str := rfl
theorem append_at {M : Mp} {p : Addr} {xs : List D} {y : D} {Q : DK} (h : M p = some (.lst xs)) : appendM (.ref p) [y] M Q = (xs.length < sizeLine ∧ Q .non (put M p (.lst (xs ++ [y])))) := by
  simp only [appendM, h]
theorem metT_list {M : Mp} {p : Addr} {xs : List D} (h : M p = some (.lst xs)) : metT "list" (.ref p) M = True := by simp [metT, h]
theorem r_law_uses {n : Nat} : ∀ ds M Q E, sp_law_uses (n + 1) ds M Q E → t_law_uses K A n (ends Q E) (dstart N_law_uses ds) M := by
  rintro ds M Q E ⟨S, rfl, ws, hd, hz, k⟩
  unfold B at hz
  unfold t_law_uses N_law_uses
  cases S with
  | is x y =>
    rw [is_sz] at k hz
    simp only [Se.wf] at ws
    simp only [Se.toD] at k ⊢
    walk_at "dl"
    simp
    refine ⟨x, rfl, ws.1, by omega, ws.2.2.1, fun xs lx p hp => ?_⟩
    simp only [ixG_t2]
    refine ⟨y, rfl, ws.2.1, by omega, ws.2.2.2, fun ys ly q hq => ?_⟩
    have k' := k (xs ++ ys) (by rw [List.length_append]; omega)
    rw [List.map_append] at k'
    exact join_end k' .refl hp hq (by simp; omega)
  | cn h x y =>
    have hc := cn_ne ws.1
    rw [cn_sz] at k hz
    simp only [Se.wf, Se.ht] at ws hd
    simp only [Se.toD] at k ⊢
    walk_at "dl"
    simp [hc, sizeLine_eq]
    intro p0 hp0
    rw [inG_lit lits_ai]
    have : decide (h ∈ (["and", "if"] : List Str)) = true := by rcases ws.1 with rfl | rfl <;> decide
    rw [this]
    simp
    refine ⟨x, rfl, ws.2.1, by omega, by unfold B; omega, fun xs lx p hp => ?_⟩
    simp only [ixG_t2]
    refine ⟨y, rfl, ws.2.2, by omega, by unfold B; omega, fun ys ly q hq => ?_⟩
    have k' := k (xs ++ ys) (by rw [List.length_append]; omega)
    rw [List.map_append] at k'
    exact join_end k' (sub_put hp0) hp hq (by simp; omega)
  | bd h x l s =>
    have hb := bk_ne ws.1
    rw [bd_sz] at k hz
    simp only [Se.wf, Se.ht] at ws hd
    simp only [Se.toD] at k ⊢
    simp only [dstart, List.map, List.length_cons, List.length_nil, List.replicate, List.cons_append, List.nil_append]
    refine seq_split (fun τ M' => τ = [some (.tup (.str h :: .str x :: (limD l ++ [s.toD]))), none, none] ∧ Sub M M') ?_ ?_
    rotate_left
    · intro nx hnx
      walk_at "dl"
      simp [hb.1]
      exact hnx _ _ ⟨rfl, .refl⟩
    rintro τ M1 ⟨rfl, s1⟩
    refine seq_split (fun τ M' => τ = [some (.tup (.str h :: .str x :: (limD l ++ [s.toD]))), none, none] ∧ Sub M M') ?_ ?_
    rotate_left
    · intro nx hnx
      walk_at "dl"
      simp [sizeLine_eq]
      intro p0 hp0
      rw [inG_lit lits_ai]
      have : decide (h ∈ (["and", "if"] : List Str)) = false := by simpa using ⟨hb.2.1, hb.2.2⟩
      rw [this]
      simp
      exact hnx _ _ ⟨rfl, s1.put hp0⟩
    rintro τ M2 ⟨rfl, s2⟩
    refine seq_split (fun τ M' => Sub M M' ∧ ∃ p, M p = none ∧ M' p = some (.lst []) ∧ τ = [some (.tup (.str h :: .str x :: (limD l ++ [s.toD]))), some (.ref p), none]) ?_ ?_
    rotate_left
    · intro nx hnx
      walk_at "dl"
      simp [sizeLine_eq]
      exact fun p hp => hnx _ _ ⟨s2.put hp, p, s2.none hp, put_same, rfl⟩
    rintro τ M3 ⟨s3, p, zp, hp, rfl⟩
    refine seq_split (fun τ M' => Sub M M' ∧ (∃ us : List (Str × Int), us.length ≤ 1 ∧ M' p = some (.lst (us.map useD))) ∧ τ = [some (.tup (.str h :: .str x :: (limD l ++ [s.toD]))), some (.ref p), none]) ?_ ?_
    rotate_left
    · intro nx hnx
      have no : nx [some (.tup (.str h :: .str x :: (limD l ++ [s.toD]))), some (.ref p), none] M3 := hnx _ _ ⟨s3, ⟨[], by simp, hp⟩, rfl⟩
      have yes : nx [some (.tup (.str h :: .str x :: (limD l ++ [s.toD]))), some (.ref p), none] (put M3 p (.lst [.tup [.str "", .int 0]])) := hnx _ _ ⟨s3.put2 zp, ⟨[("", 0)], by simp, put_same⟩, rfl⟩
      cases l with
      | none =>
        simp only [limD, List.nil_append] at *
        walk_at "dl"
        simp
        exact no
      | some i =>
        simp only [limD, List.cons_append, List.nil_append] at *
        walk_at "dl"
        simp [dChain, dC, dOp, dVar, slot, ixG_t2, oI0]
        by_cases c1 : 1 ≤ i
        · by_cases c2 : 12 < i
          rotate_left
          · simp [c1, c2]
            exact no
          · simp [c1, c2, metT_list hp, append_at hp, sizeLine_eq]
            exact yes
        · simp [c1, metT_list hp, append_at hp, sizeLine_eq]
          exact yes
    rintro τ M4 ⟨s4, ⟨us, hu, hp4⟩, rfl⟩
    walk_at "dl"
    rw [ixG_last2]
    refine ⟨s, rfl, ws.2.2.2, by omega, by unfold B; omega, fun zs lz q hq => ?_⟩
    simp only [itemsOf, seqOf, put_same, keepOf]
    have npq : q ≠ p := by rintro rfl; rw [hp4] at hq; cases hq
    refine dLoop_inv (fun j τ M' => Sub M M' ∧ M' q = some (.lst (zs.map useD)) ∧ ∃ (vs : List (Str × Int)) (o : Option D), vs.length ≤ 1 + j ∧ M' p = some (.lst (vs.map useD)) ∧ τ = [some (.tup (.str h :: .str x :: (limD l ++ [s.toD]))), some (.ref p), o]) (fun _ _ _ _ h => by simp [h.2.1]) ?_ ?_ ⟨s4.put hq, put_same, us, none, by omega, at_lay hp4 hq, rfl⟩
    · rintro j d τ M' nxt hd' ⟨s', hq', vs, o, hv, hp', rfl⟩ hnx
      obtain ⟨hj, rfl⟩ := uses_at hd'
      have app : ∀ (M2 : Mp) (u : Str × Int) (o' : Option D), Sub M M2 → M2 q = some (.lst (zs.map useD)) → M2 p = some (.lst (vs.map useD)) → nxt [some (.tup (.str h :: .str x :: (limD l ++ [s.toD]))), some (.ref p), o'] (put M2 p (.lst (vs.map useD ++ [useD u]))) := fun M2 u o' h1 h2 h3 =>
        hnx _ _ ⟨h1.put2 zp, by rw [put_ne npq]; exact h2, vs ++ [u], o', by simp; omega, by rw [put_same, List.map_append]; rfl, rfl⟩
      generalize hu : zs[j] = u at hd' ⊢
      have a1 := app M' u (some (useD u)) s' hq' hp'
      unfold useD at a1 ⊢
      walk_at "dl"
      by_cases c : u.1 = x
      rotate_left
      · simp [c, metT_list hp', append_at hp', sizeLine_eq]
        exact ⟨by omega, a1⟩
      simp [c, sizeLine_eq]
      intro r hr
      rw [inG_lit lits_ar]
      have hp2 : put M' r (.lst [.str "allrow", .str "somerow"]) p = some (.lst (vs.map useD)) := at_lay hp' hr
      have hq2 : put M' r (.lst [.str "allrow", .str "somerow"]) q = some (.lst (zs.map useD)) := at_lay hq' hr
      have g1 : ∀ o', nxt [some (.tup (.str h :: .str x :: (limD l ++ [s.toD]))), some (.ref p), o'] (put M' r (.lst [.str "allrow", .str "somerow"])) := fun o' => hnx _ _ ⟨s'.put hr, hq2, vs, o', by omega, hp2, rfl⟩
      have g2 := fun o' => app _ ("", 0) o' (s'.put hr) hq2 hp2
      have g3 : vs.length < 16777216 := by omega
      simp only [neD_int, metT_list hp2, append_at hp2, sizeLine_eq, List.length_map, g3, true_and]
      split <;> split <;> first
        | exact g1 _
        | exact g2 _
    · rintro τ M' ⟨s', hq', vs, o, hv, hp', rfl⟩
      rw [List.length_map] at hv
      walk_at "dl"
      exact fresh_at (k vs (by omega)) s' zp hp'
end K06

set_option maxHeartbeats 4000000
namespace K06
open PySem L2 DL
local macro_rules | `(tactic| walk_at "dl") => `(tactic| simp only [dSeq, dIfS, dB, dTru, truD, dOp, dVar, dC, dAsg, dAug, dCB, dCons, dNil, dRet, dRetN, dName, dGSub, dNext, ends, exOf, dstart, slot, oI0, oI, dAnd, dOr, dNot, dAndV, dOrV, dNotV, dNeg, dSl, dNoP, dPart, dFld, dFldS, dRaise, dLst, dTup, dFor, dIter, dRng1, dRng2, dCall, dMake, dMeth, dIxO, dLc, dYes, dGTup, dGCons, dGNil, dDrop, dBreak, dBM, dDIn, dDGet, dDGet2, dDNew, dGSubD, dDStar,
  eqD_str, neD_str, eqD_int, neD_int, ixG_t0, ixG_t1, isiG_str, isi_int, isi_int_s, isi_int_t, isi_tup, isi_tup_s, isi_tup_i, isi_str_i, isi_str_t, lenG_tup, addD_int, mulD_int, intG, List.nil_append, bne_iff_ne, ofS_inj, Bool.false_bne, Bool.true_bne,
  List.map, List.length_cons, List.length_nil, List.cons_append, List.append_nil, List.replicate, List.set, List.getElem?_cons_zero, List.getElem?_cons_succ, Option.join_some, Option.bind_some, decide_eq_true_eq])
variable {K : PySem.W.Frag} {A : Adr}
theorem int_vals {kvs : List (Key × D)} (h : ∀ k d, valD kvs k = some d → ∃ i, d = .int i) {k : Key} {j i : Int} : ∀ m d, valD (putKD kvs k (.int i)) m = some d → ∃ i, d = .int i := fun m d e => by
  rw [valD_put] at e
  split at e
  · cases e; exact ⟨_, rfl⟩
  · exact h m d e
theorem r_law_fits : ∀ ds M Q E, sp_law_fits ds M Q E → t_law_fits K A (ends Q E) (dstart N_law_fits ds) M := by
  rintro ds M Q E ⟨S, rfl, ⟨ws, hh, hz⟩, k⟩
  unfold t_law_fits N_law_fits
  walk_at "dl"
  intro a ha
  refine ⟨S, rfl, ws, by omega, hz, fun zs lz q hq => ?_⟩
  simp only [itemsOf, seqOf, put_same, keepOf]
  unfold B at hz
  have naq : q ≠ a := by rintro rfl; rw [put_same] at hq; cases hq
  refine dLoop_inv (fun j τ M' => Sub M M' ∧ M' q = some (.lst (zs.map useD)) ∧ ∃ (kvs : List (Key × D)) (o : Option D), kvs.length ≤ j ∧ M' a = some (.dk kvs) ∧ (∀ k d, valD kvs k = some d → ∃ i, d = .int i) ∧ τ = [some S.toD, some (.ref a), o]) (fun _ _ _ _ h => by simp [h.2.1]) ?_ ?_ ⟨(sub_put ha).trans (sub_put hq), put_same, [], none, Nat.le_refl _, at_lay put_same hq, (fun k d e => by cases e), rfl⟩
  · rintro j d τ M' nxt hd' ⟨s', hq', kvs, o, hv, ha', hi, rfl⟩ hnx
    obtain ⟨hj, rfl⟩ := uses_at hd'
    generalize hu : zs[j] = u at hd' ⊢
    unfold useD
    walk_at "dl"
    by_cases c : u.1 = ""
    · simp [c]
      exact dropQ_of (k false) s'
    simp [c, dictRd, ha', keyD]
    have e : ∃ i, (valD kvs (.inr u.1)).getD (.int u.2) = .int i := by
      cases e : valD kvs (.inr u.1) with
      | none => exact ⟨_, rfl⟩
      | some d => exact hi _ _ e
    obtain ⟨i, e⟩ := e
    rw [e, neD_int]
    simp
    split
    · simp [sizeLine_eq, ha']
      refine ⟨by omega, hnx _ _ ⟨s'.put2 ha, by rw [put_ne naq]; exact hq', _, _, ?_, put_same, int_vals (j := 0) hi, rfl⟩⟩
      have := putKD_length (l := kvs) (k := .inr u.1) (d := .int u.2)
      omega
    · exact dropQ_of (k false) s'
  · rintro τ M' ⟨s', hq', kvs, o, hv, ha', hi, rfl⟩
    walk_at "dl"
    exact dropQ_of (k true) s'
end K06

set_option maxHeartbeats 4000000
namespace K06
open PySem L2 DL
local macro_rules | `(tactic| walk_at "dl") => `(tactic| simp only [dSeq, dIfS, dB, dTru, truD, dOp, dVar, dC, dAsg, dAug, dCB, dCons, dNil, dRet, dRetN, dName, dGSub, dNext, ends, exOf, dstart, slot, oI0, oI, dAnd, dOr, dNot, dAndV, dOrV, dNotV, dNeg, dSl, dNoP, dPart, dFld, dFldS, dRaise, dLst, dTup, dFor, dIter, dRng1, dRng2, dCall, dMake, dMeth, dIxO, dLc, dYes, dGTup, dGCons, dGNil, dDrop, dBreak, dBM, dDIn, dDGet, dDGet2, dDNew, dGSubD, dDStar,
  eqD_str, neD_str, eqD_int, neD_int, ixG_t0, ixG_t1, isiG_str, isi_int, isi_int_s, isi_int_t, isi_tup, isi_tup_s, isi_tup_i, isi_str_i, isi_str_t, lenG_tup, addD_int, mulD_int, intG, List.nil_append, bne_iff_ne, ofS_inj, Bool.false_bne, Bool.true_bne,
  List.map, List.length_cons, List.length_nil, List.cons_append, List.append_nil, List.replicate, List.set, List.getElem?_cons_zero, List.getElem?_cons_succ, Option.join_some, Option.bind_some, decide_eq_true_eq])
variable {K : PySem.W.Frag} {A : Adr}
theorem map_shift {n : Nat} {q : List Int} {i : Int} {ls : List (List Int)} : (ls.map fun r => T ((q ++ [i]) ++ r)) = (ls.map (i :: ·)).map fun r => T (q ++ r) := by
  rw [List.map_map]
  refine List.map_congr_left fun r _ => ?_
  simp
theorem r_law_leaves {n : Nat} : ∀ ds M Q E, sp_law_leaves (n + 1) ds M Q E → t_law_leaves K A n (ends Q E) (dstart N_law_leaves ds) M := by
  rintro ds M Q E ⟨d, q, rfl, pd, hd, hz, hq, k⟩
  unfold B at hz
  unfold t_law_leaves N_law_leaves
  cases d with
  | bl b => simp [pureD] at pd
  | ref b => simp [pureD] at pd
  | ty b => simp [pureD] at pd
  | non =>
    walk_at "dl"
    simp [isiG, tyName, isB, sizeLine_eq]
    intro p hp
    simp [leavesD] at k
    exact fresh_end k .refl hp
  | int i =>
    walk_at "dl"
    simp [sizeLine_eq]
    intro p hp
    simp [leavesD] at k
    exact fresh_end k .refl hp
  | str i =>
    walk_at "dl"
    simp [sizeLine_eq]
    intro p hp
    simp [leavesD] at k
    exact fresh_end k .refl hp
  | tup xs =>
    have lz := leaves_sz (.tup xs)
    have lx := len_szL xs
    simp only [leavesD, szD] at k lz hz
    rw [dep] at hd hq
    walk_at "dl"
    simp [sizeLine_eq]
    intro p hp
    refine ⟨by omega, ?_⟩
    have pm : ∀ i (hi : i < xs.length), pureD xs[i] = true := by
      have : ∀ {ds : List D}, pureL ds = true → ∀ d, d ∈ ds → pureD d = true := by
        intro ds
        induction ds with
        | nil => intro _ d h; cases h
        | cons a l ih =>
          intro h d hd
          simp only [pureL, Bool.and_eq_true] at h
          rcases List.mem_cons.mp hd with rfl | hd
          · exact h.1
          · exact ih h.2 d hd
      exact fun i hi => this (by simpa [pureD] using pd) _ (List.getElem_mem hi)
    refine dLoop_inv (fun i τ M' => Sub M M' ∧ ∃ (p : Addr) (acc : List (List Int)) (o : Option D), M p = none ∧ M' p = some (.lst (acc.map fun r => T (q ++ r))) ∧ acc ++ leavesL i (xs.drop i) = leavesL 0 xs ∧ τ = [some (.tup xs), some (T q), some (.ref p), o]) (fun _ _ _ _ _ => trivial) ?_ ?_ ⟨sub_put hp, p, [], none, hp, by rw [put_same]; rfl, by simp, rfl⟩
    · rintro i d τ M' nxt hd' ⟨s', r, acc, o, zr, hr, ha, rfl⟩ hnx
      obtain ⟨hi, rfl⟩ := rng_at hd'
      have hx : xs[i]? = some xs[i] := List.getElem?_eq_getElem hi
      rw [List.drop_eq_getElem_cons hi, leavesL] at ha
      walk_at "dl"
      rw [ixG_nat hx, show D.tup [D.int (i : Int)] = T [(i : Int)] from rfl, addD_T]
      have d1 := depL_mem (List.getElem_mem hi)
      have z1 := szL_mem (List.getElem_mem hi)
      refine ⟨by rw [sizeLine_eq]; omega, by rw [sizeLine_eq]; simp; omega, xs[i], q ++ [(i : Int)], rfl, pm i hi, by omega, by unfold B; omega, by simp; omega, fun u hu => ?_⟩
      have hr2 := at_lay (o := .lst ((leavesD xs[i]).map fun r => T ((q ++ [(i : Int)]) ++ r))) hr hu
      simp only [addD, hr2, put_same]
      have hl := congrArg List.length ha
      simp only [List.length_append, List.length_map] at hl
      refine ⟨by rw [sizeLine_eq]; simp; omega, fun v hv => hnx _ _ ⟨(s'.put hu).put hv, v, acc ++ (leavesD xs[i]).map ((i : Int) :: ·), _, (s'.put hu).none hv, ?_, by rw [List.append_assoc]; exact ha, rfl⟩⟩
      rw [put_same, List.map_append, map_shift (n := n)]
    · rintro τ M' ⟨s', r, acc, o, zr, hr, ha, rfl⟩
      rw [len_rng] at ha
      simp only [Int.toNat_natCast, List.drop_length, leavesL, List.append_nil] at ha
      subst ha
      walk_at "dl"
      exact fresh_at k s' zr hr
theorem r_law_put {n : Nat} : ∀ ds M Q E, sp_law_put (n + 1) ds M Q E → t_law_put K A n (ends Q E) (dstart N_law_put ds) M := by
  rintro ds M Q E ⟨d, q, v, d', rfl, hq, hd, hp, hz, k⟩
  unfold B at hz
  unfold t_law_put N_law_put
  cases q with
  | nil =>
    simp only [putD, Option.some.injEq] at hd
    subst hd
    walk_at "dl"
    simp [lenG_T]
    exact dropQ_of k .refl
  | cons i q =>
    cases d with
    | tup xs =>
      simp only [pathOk] at hp
      simp only [putD] at hd
      obtain ⟨h0, h1, h2⟩ := hp
      have lx := len_szL xs
      obtain ⟨j, rfl⟩ : ∃ j : Nat, i = j := ⟨i.toNat, by omega⟩
      rw [Int.toNat_natCast] at h2 hd
      have hj : j < xs.length := by omega
      have hx : xs[j]? = some xs[j] := List.getElem?_eq_getElem hj
      rw [hx] at h2 hd
      obtain ⟨e, he, rfl⟩ := Option.map_eq_some_iff.mp hd
      simp only [szD] at hz
      have z1 := szL_mem (List.getElem_mem hj)
      have hT0 : ∀ {M : Mp} {Q : DK}, ixG (T ((j : Int) :: q)) (.int 0) M Q = Q (.int j) M := fun {M Q} => ixG_t0
      walk_at "dl"
      simp only [lenG_T, hT0, List.length_cons]
      simp only [eqD_int]
      have : ¬ (((q.length + 1 : Nat) : Int) = 0) := by omega
      simp only [this, decide_false, Bool.false_eq_true, if_false]
      have sl1 : ∀ {M : Mp} {Q : DK}, slG (.tup xs) none (some (j : Int)) M Q = Q (.tup (xs.take j)) M := fun {M Q} => by simp only [slG]; rw [cut_to]
      have sl2 : ∀ {M : Mp} {Q : DK}, slG (.tup xs) (some ((j : Int) + 1)) none M Q = Q (.tup (xs.drop (j + 1))) M := fun {M Q} => by
        have e1 : ((j : Int) + 1) = ((j + 1 : Nat) : Int) := by omega
        simp only [slG]
        rw [e1, cut_from (by omega)]
      rw [sl1, ixG_nat hx, slG_post (by omega)]
      refine ⟨xs[j], q, v, e, rfl, by simp at hq; omega, he, h2, by unfold B; omega, ?_⟩
      simp only [addD, sl2, List.length_take, List.length_drop, List.length_append, List.length_cons, List.length_nil, sizeLine_eq]
      refine ⟨by omega, by omega, by omega, ?_⟩
      have e3 : xs.take j ++ [e] ++ xs.drop (j + 1) = xs.set j e := by
        rw [List.set_eq_take_append_cons_drop, if_pos hj]
        simp
      rw [e3]
      exact dropQ_of k .refl
    | _ => simp [putD] at hd
end K06

set_option maxHeartbeats 4000000
namespace K06
open PySem L2 DL
local macro_rules | `(tactic| walk_at "dl") => `(tactic| simp only [dSeq, dIfS, dB, dTru, truD, dOp, dVar, dC, dAsg, dAug, dCB, dCons, dNil, dRet, dRetN, dName, dGSub, dNext, ends, exOf, dstart, slot, oI0, oI, dAnd, dOr, dNot, dAndV, dOrV, dNotV, dNeg, dSl, dNoP, dPart, dFld, dFldS, dRaise, dLst, dTup, dFor, dIter, dRng1, dRng2, dCall, dMake, dMeth, dIxO, dLc, dYes, dGTup, dGCons, dGNil, dDrop, dBreak, dBM, dDIn, dDGet, dDGet2, dDNew, dGSubD, dDStar,
  eqD_str, neD_str, eqD_int, neD_int, ixG_t0, ixG_t1, isiG_str, isi_int, isi_int_s, isi_int_t, isi_tup, isi_tup_s, isi_tup_i, isi_str_i, isi_str_t, lenG_tup, addD_int, mulD_int, intG, List.nil_append, bne_iff_ne, ofS_inj, Bool.false_bne, Bool.true_bne,
  List.map, List.length_cons, List.length_nil, List.cons_append, List.append_nil, List.replicate, List.set, List.getElem?_cons_zero, List.getElem?_cons_succ, Option.join_some, Option.bind_some, decide_eq_true_eq])
variable {K : PySem.W.Frag} {A : Adr}
theorem num_end {M : Mp} {s l : Addr} {ns : List Int} {Q : DK} (k : ∀ i : Int, Drawn M s l ns (Q (.int i))) {i : Int} {M' : Mp} (J : LS (Is s) M M' s l ns) : dropQ Q (.int i) M' := dropQ_of (k i M' J.P J.X) .refl
theorem r_law_number : ∀ ds M Q E, sp_law_number ds M Q E → t_law_number K A (ends Q E) (dstart N_law_number ds) M := by
  rintro ds M Q E ⟨s, l, ns, rfl, P, k⟩
  have J := LS.zero (S := Is s) P rfl
  unfold t_law_number N_law_number
  walk_at "dl"
  refine J.pick (by decide) (by decide) fun r M1 r0 r1 J1 e1 => ?_
  by_cases c1 : r < 9
  · simp [c1]
    exact J1.pick (by decide) (by decide) fun r M2 _ _ J2 _ => num_end k J2
  simp [c1]
  by_cases c2 : r < 11
  · simp [c2]
    exact J1.pick (by decide) (by decide) fun r M2 _ _ J2 _ => num_end k J2
  simp [c2, sizeLine_eq]
  refine J1.choose rfl (by decide) (by decide) fun v M2 hv J2 e2 => ?_
  simp at hv
  rcases hv with rfl | rfl
  · exact J2.pick (by decide) (by decide) fun r M2 _ _ J2 _ => num_end k J2
  · exact J2.pick (by decide) (by decide) fun r M2 _ _ J2 _ => num_end k J2
end K06

set_option maxHeartbeats 4000000
namespace K06
open PySem L2 DL
local macro_rules | `(tactic| walk_at "dl") => `(tactic| simp only [dSeq, dIfS, dB, dTru, truD, dOp, dVar, dC, dAsg, dAug, dCB, dCons, dNil, dRet, dRetN, dName, dGSub, dNext, ends, exOf, dstart, slot, oI0, oI, dAnd, dOr, dNot, dAndV, dOrV, dNotV, dNeg, dSl, dNoP, dPart, dFld, dFldS, dRaise, dLst, dTup, dFor, dIter, dRng1, dRng2, dCall, dMake, dMeth, dIxO, dLc, dYes, dGTup, dGCons, dGNil, dDrop, dBreak, dBM, dDIn, dDGet, dDGet2, dDNew, dGSubD, dDStar,
  eqD_str, neD_str, eqD_int, neD_int, ixG_t0, ixG_t1, isiG_str, isi_int, isi_int_s, isi_int_t, isi_tup, isi_tup_s, isi_tup_i, isi_str_i, isi_str_t, lenG_tup, addD_int, mulD_int, intG, List.nil_append, bne_iff_ne, ofS_inj, Bool.false_bne, Bool.true_bne,
  List.map, List.length_cons, List.length_nil, List.cons_append, List.append_nil, List.replicate, List.set, List.getElem?_cons_zero, List.getElem?_cons_succ, Option.join_some, Option.bind_some, decide_eq_true_eq])
variable {K : PySem.W.Frag} {A : Adr}
theorem toDs_two {a b : Ex} : [a.toD, b.toD] = Ex.toDs [a, b] := by simp [Ex.toDs]
def heads9 : List Str := ["plus", "minus", "times", "div", "rem", "least", "greatest", "same", "below"]
theorem heads9_ok {h : Str} (hh : h ∈ heads9) : oks h ∧ h ≠ "call" ∧ h ≠ "look" ∧ h ≠ "table" := by
  simp only [heads9, List.mem_cons, List.not_mem_nil, or_false] at hh
  rcases hh with rfl | rfl | rfl | rfl | rfl | rfl | rfl | rfl | rfl <;> decide +kernel
/-- an operation -/
theorem op_wf {h : Str} {xs : List Ex} (h1 : oks h) (h2 : h ≠ "call" ∧ h ≠ "look" ∧ h ≠ "table") (hl : xs.length ≤ 3) (hx : ∀ x, x ∈ xs → x.wf okw) : (Ex.nd h none xs none).wf okw := by
  simp only [Ex.wf]
  exact ⟨h1, by simp [h2.1, h2.2.1], (fun _ e => nomatch e), by simp [h2.2.2], fun e => absurd e h2.2.2, hl, (fun _ _ e => nomatch e), wfs_mem.mpr hx⟩
theorem depL_le {m : Nat} : ∀ {ds : List D}, (∀ d, d ∈ ds → dep d ≤ m) → depL ds ≤ m
  | [], _ => by simp [depL]
  | d :: ds, h => by
    rw [depL]
    exact Nat.max_le.mpr ⟨h d List.mem_cons_self, depL_le fun e he => h e (List.mem_cons_of_mem _ he)⟩
theorem nd_dep_le {h : Str} {nm : Option Str} {xs : List Ex} {tl : Option (List Int × Int)} {m : Nat} (hm : tl.isSome = true → 1 ≤ m) (hx : ∀ x, x ∈ xs → dep x.toD ≤ m) : dep (Ex.nd h nm xs tl).toD ≤ m + 1 := by
  have h1 : depL (nmD nm) = 0 := by cases nm <;> simp [nmD, depL, dep]
  have h2 : depL (tlD tl) ≤ m := by
    cases tl with
    | none => simp [tlD, depL]
    | some p => obtain ⟨r, i⟩ := p; have := hm rfl; simp only [tlD, depL, dep_T, dep]; omega
  have h3 : depL (Ex.toDs xs) ≤ m := depL_le fun d hd => by
    rw [toDs_map] at hd
    obtain ⟨x, hx', rfl⟩ := List.mem_map.mp hd
    exact hx x hx'
  rw [Ex.toD, dep, depL, depL_app, depL_app, h1, dep]
  omega
theorem drawn_ls {S : Addr → Prop} {M0 M : Mp} {s l : Addr} {ns : List Int} {k : Mp → Prop} (J : LS S M0 M s l ns) (h : ∀ M', LS S M0 M' s l ns → Ext (Is s) M M' → k M') : Drawn M s l ns k := fun M' P e => h M' ⟨P, J.X.trans (e.one J.S), J.S⟩ e
theorem _root_.DL.LS.number {S : Addr → Prop} {M0 M : Mp} {s l : Addr} {ns : List Int} {Q : DK} {E : EK} (J : LS S M0 M s l ns) (k : ∀ (r : Int) (M' : Mp), LS S M0 M' s l ns → Ext (Is s) M M' → Q (.int r) M') : sp_law_number [.ref s] M Q E := ⟨s, l, ns, rfl, J.P, fun i => drawn_ls J fun M' J' e => k i M' J' e⟩
theorem if_or2 {c1 c2 : Prop} [Decidable c1] [Decidable c2] {X Y : Prop} (h : c1 ∨ c2 → X) (h' : ¬ (c1 ∨ c2) → Y) : if c1 then X else if c2 then X else Y := by
  by_cases a : c1 <;> by_cases b : c2 <;> simp_all
theorem ixG_at {M : Mp} {a : Addr} {vs : List D} (ha : M a = some (.lst vs)) {i : Int} {d : D} {Q : DK} (e : atI vs i = some d) : ixG (.ref a) (.int i) M Q = Q d M := by
  unfold ixG
  simp only [seqOf, ha, Option.bind_some, e]
theorem cl_wf {h x : Str} {xs : List Ex} (hc : h = "call" ∨ h = "look") (hx : okw x) (hl : xs.length ≤ 3) (hw : ∀ x, x ∈ xs → x.wf okw) : (Ex.nd h (some x) xs none).wf okw := by
  simp only [Ex.wf]
  refine ⟨?_, by simp [hc], (fun _ e => by cases e; exact hx), ?_, ?_, hl, (fun _ _ e => nomatch e), wfs_mem.mpr hw⟩
  · rcases hc with rfl | rfl <;> decide +kernel
  · rcases hc with rfl | rfl <;> decide
  · rcases hc with rfl | rfl <;> exact fun e => absurd e (by decide)
theorem funs_keys {kvs : List (Key × D)} (h : FunsOk kvs) : ∃ ks : List Str, kvs.map (·.1) = ks.map Sum.inr := by
  replace h := h.2
  induction kvs with
  | nil => exact ⟨[], rfl⟩
  | cons q l ih =>
    obtain ⟨ks, e⟩ := ih fun q' hq => h q' (List.mem_cons_of_mem _ hq)
    obtain ⟨x, rfl, _⟩ := h q List.mem_cons_self
    exact ⟨x :: ks, by simp [e]⟩
theorem funs_at {kvs : List (Key × D)} (h : FunsOk kvs) {ks : List Str} (ek : kvs.map (·.1) = ks.map Sum.inr) {x : Str} (hx : x ∈ ks) : okw x ∧ valD kvs (.inr x) = some (.tup [.tup [.str "a"], .str "a"]) := by
  replace h := h.2
  induction kvs generalizing ks with
  | nil => cases ks <;> simp_all
  | cons q l ih =>
    obtain ⟨y, rfl, oy⟩ := h q List.mem_cons_self
    cases ks with
    | nil => simp at ek
    | cons z ks =>
      simp only [List.map_cons, List.cons.injEq, Sum.inr.injEq] at ek
      obtain ⟨rfl, ek⟩ := ek
      rw [valD_cons]
      by_cases c : y = x
      · subst c
        simp [oy]
      · have : ¬ (Sum.inr y : Key) = .inr x := fun e => c (Sum.inr.inj e)
        simp only [this, if_false]
        rcases List.mem_cons.mp hx with rfl | hx
        · exact absurd rfl c
        · exact ih ek hx (fun q' hq => h q' (List.mem_cons_of_mem _ hq))
set_option maxHeartbeats 2000000 in
theorem r_law_expression {n : Nat} : ∀ ds M Q E, sp_law_expression (n + 1) ds M Q E → t_law_expression K A n (ends Q E) (dstart N_law_expression ds) M := by
  rintro ds M Q E ⟨s, l, ns, na, ra, fa, nums, rows, kvs, lv, rfl, P, n1, n2, n3, hn, wn, hr, wr, hf, wf, hd, hd2, k⟩
  have J := LS.zero (S := Is s) P rfl
  have fin : ∀ (e : Ex) M', e.wf okw → dep e.toD ≤ lv + 1 → LS (Is s) M M' s l ns → dropQ Q e.toD M' := fun e M' h1 h2 J' => dropQ_of (k e h1 h2 M' J'.P J'.X) .refl
  have sub : ∀ (lv' : Nat) (i : Int) (M' : Mp) (Q' : DK) (E' : EK), LS (Is s) M M' s l ns → i = (lv' : Nat) → lv' < n → lv' ≤ 2 → (∀ (e : Ex) M2, e.wf okw → dep e.toD ≤ lv' + 1 → LS (Is s) M M2 s l ns → Ext (Is s) M' M2 → Q' e.toD M2) → sp_law_expression n [.ref s, .ref na, .ref ra, .ref fa, .int i] M' Q' E' := by
    rintro lv' i M' Q' E' J' rfl h1 h2 h3
    exact ⟨s, l, ns, na, ra, fa, nums, rows, kvs, lv', rfl, J'.P, n1, n2, n3, J'.X _ _ n1 hn, wn, J'.X _ _ n2 hr, wr, J'.X _ _ n3 hf, wf, h1, h2, fun e w1 w2 => drawn_ls J' fun M2 J2 e2 => h3 e M2 w1 w2 J2 e2⟩
  unfold t_law_expression N_law_expression
  simp only [dstart, List.map, List.length_cons, List.length_nil, List.replicate, List.cons_append, List.nil_append]
  refine seq_split (fun τ M' => ∃ way : Int, LS (Is s) M M' s l ns ∧ τ = [some (.ref s), some (.ref na), some (.ref ra), some (.ref fa), some (.int lv), some (.int way), none, none, none, none, none, none, none, none]) ?_ ?_
  rotate_left
  · intro nx hnx
    walk_at "dl"
    exact J.pick (by decide) (by decide) fun way M1 r0 r1 J1 e1 => hnx _ _ ⟨way, J1, rfl⟩
  rintro τ M1 ⟨way, J1, rfl⟩
  refine seq_split (fun τ M' => lv ≠ 0 ∧ LS (Is s) M M' s l ns ∧ τ = [some (.ref s), some (.ref na), some (.ref ra), some (.ref fa), some (.int lv), some (.int way), none, none, none, none, none, none, none, none]) ?_ ?_
  rotate_left
  · intro nx hnx
    walk_at "dl"
    simp only [↓reduceIte]
    refine if_or2 (fun _ => ?_) fun c => hnx _ _ ⟨?_, J1, rfl⟩
    · have hn1 : M1 na = some (.lst (nums.map D.str)) := J1.X _ _ n1 hn
      simp only [lenG_at hn1, List.length_map]
      by_cases c : (0 : Int) < nums.length
      · rw [if_pos c]
        refine J1.pick (by decide) (by decide) fun r M2 _ _ J2 e2 => ?_
        dsimp only
        by_cases c2 : 0 < r
        · rw [if_pos c2]
          have hn2 : M2 na = some (.lst (nums.map D.str)) := J2.X _ _ n1 hn
          simp only [lenG_at hn2, List.length_map]
          refine J2.pickAt hn2 n1 (by simp) (by simp; omega) (by have := wn.1; simp; omega) fun v M3 hv J3 _ => ?_
          obtain ⟨x, hx, rfl⟩ := List.mem_map.mp hv
          exact fin (.w x) M3 (wn.2 x hx) (by simp [Ex.toD, dep]) J3
        · rw [if_neg c2]
          exact J2.number (E := noE) fun r M3 J3 _ => fin (.n r) M3 (by simp [Ex.wf]) (by simp [Ex.toD, dep]) J3
      · rw [if_neg c]
        exact J1.number (E := noE) fun r M3 J3 _ => fin (.n r) M3 (by simp [Ex.wf]) (by simp [Ex.toD, dep]) J3
    · exact fun z => c (.inl (by omega))
  rintro τ M2 ⟨lv0, J2, rfl⟩
  have el : ((lv : Int) - 1) = ((lv - 1 : Nat) : Int) := by omega
  refine seq_split (fun τ M' => LS (Is s) M M' s l ns ∧ τ = [some (.ref s), some (.ref na), some (.ref ra), some (.ref fa), some (.int lv), some (.int way), none, none, none, none, none, none, none, none]) ?_ ?_
  rotate_left
  · intro nx hnx
    walk_at "dl"
    by_cases c : way < 10
    rotate_left
    · rw [if_neg c]
      exact hnx _ _ ⟨J2, rfl⟩
    rw [if_pos c]
    refine ⟨by rw [sizeLine_eq]; omega, ?_⟩
    refine J2.chooseP (vs := heads9.map D.str) (n := 9) rfl (by decide) (by decide) fun p v M3 hv J3 e3 => ?_
    obtain ⟨h, hh, rfl⟩ : ∃ h, h ∈ heads9 ∧ v = .str h := by
      have : v ∈ heads9.map D.str := hv
      obtain ⟨h, hh, rfl⟩ := List.mem_map.mp this
      exact ⟨h, hh, rfl⟩
    have ho := heads9_ok hh
    refine sub (lv - 1) _ _ _ _ J3 el (by omega) (by omega) fun a M4 wa da J4 _ => ?_
    refine sub (lv - 1) _ _ _ _ J4 el (by omega) (by omega) fun b M5 wb db J5 _ => ?_
    refine ⟨by rw [sizeLine_eq]; simp, ?_⟩
    have := fin (Ex.nd h none [a, b] none) M5 (op_wf ho.1 ho.2 (by simp) (by simp [wa, wb])) (nd_dep_le (by simp) (by simp; omega)) J5
    simpa [Ex.toD, nmD, tlD, Ex.toDs] using this
  rintro τ M3 ⟨J3, rfl⟩
  -- first
  refine seq_split (fun τ M' => LS (Is s) M M' s l ns ∧ ∃ a : Ex, a.wf okw ∧ dep a.toD ≤ lv ∧ τ = [some (.ref s), some (.ref na), some (.ref ra), some (.ref fa), some (.int lv), some (.int way), none, none, some a.toD, none, none, none, none, none]) ?_ ?_
  rotate_left
  · intro nx hnx
    walk_at "dl"
    exact sub (lv - 1) _ _ _ _ J3 el (by omega) (by omega) fun a M4 wa da J4 _ => hnx _ _ ⟨J4, a, wa, by omega, rfl⟩
  rintro τ M4 ⟨J4, a, wa, da, rfl⟩
  -- pick
  refine seq_split (fun τ M' => LS (Is s) M M' s l ns ∧ τ = [some (.ref s), some (.ref na), some (.ref ra), some (.ref fa), some (.int lv), some (.int way), none, none, some a.toD, none, none, none, none, none]) ?_ ?_
  rotate_left
  · intro nx hnx
    walk_at "dl"
    by_cases c : way = 10
    rotate_left
    · rw [if_neg c]
      exact hnx _ _ ⟨J4, rfl⟩
    rw [if_pos c]
    refine sub (lv - 1) _ _ _ _ J4 el (by omega) (by omega) fun b M5 wb db J5 _ => ?_
    refine sub (lv - 1) _ _ _ _ J5 el (by omega) (by omega) fun b' M6 wb' db' J6 _ => ?_
    refine ⟨by rw [sizeLine_eq]; simp, ?_⟩
    have := fin (Ex.nd "pick" none [a, b, b'] none) M6 (op_wf (by decide +kernel) (by decide) (by simp) (by simp [wa, wb, wb'])) (nd_dep_le (by simp) (by simp; omega)) J6
    simpa [Ex.toD, nmD, tlD, Ex.toDs] using this
  rintro τ M5 ⟨J5, rfl⟩
  -- table
  refine seq_split (fun τ M' => LS (Is s) M M' s l ns ∧ τ = [some (.ref s), some (.ref na), some (.ref ra), some (.ref fa), some (.int lv), some (.int way), none, none, some a.toD, none, none, none, none, none]) ?_ ?_
  rotate_left
  · intro nx hnx
    walk_at "dl"
    by_cases c : way = 11
    rotate_left
    · rw [if_neg c]
      exact hnx _ _ ⟨J5, rfl⟩
    rw [if_pos c]
    refine J5.pick (by decide) (by decide) fun r M6 r0 r1 J6 e6 => ?_
    refine ⟨by first | omega | (rw [sizeLine_eq]; omega), by first | omega | (rw [sizeLine_eq]; omega), fun p hp => ?_⟩
    refine dCL_draws D.int (fun _ => True) (J6.new hp) (.new J6 hp) (by rw [len_rng]; omega) (fun _ _ _ => trivial) (fun i d M' k' _ J' _ hk => ?_) fun xs M7 hx _ J7 _ O7 => ?_
    · walk_at "dl"
      exact J'.number fun r M7 J7 e7 => hk r M7 trivial J7 e7
    · rw [len_rng] at hx
      simp only [tupG, seqOf, O7.a]
      refine J7.number fun i M8 J8 _ => ⟨by rw [sizeLine_eq]; simp, ?_⟩
      have := fin (Ex.nd "table" none [a] (some (xs, i))) M8 ?_ (nd_dep_le (by omega) (by simpa using da)) J8
      · simpa [Ex.toD, nmD, tlD, Ex.toDs, T] using this
      · simp only [Ex.wf]
        refine ⟨by decide +kernel, by decide, (fun _ e => nomatch e), by simp, fun _ => rfl, by simp, fun r' i' e => ?_, by simp [Ex.wfs, wa]⟩
        cases e
        omega
  rintro τ M6 ⟨J6, rfl⟩
  -- call
  refine seq_split (fun τ M' => LS (Is s) M M' s l ns ∧ τ = [some (.ref s), some (.ref na), some (.ref ra), some (.ref fa), some (.int lv), some (.int way), none, none, some a.toD, none, none, none, none, none]) ?_ ?_
  rotate_left
  · intro nx hnx
    walk_at "dl"
    by_cases c : way = 12
    rotate_left
    · rw [if_neg c]
      exact hnx _ _ ⟨J6, rfl⟩
    have hf6 : M6 fa = some (.dk kvs) := J6.X _ _ n3 hf
    rw [if_pos c]
    simp only [lenDict, dictOf, hf6]
    by_cases c2 : (0 : Int) < kvs.length
    rotate_left
    · rw [if_neg c2]
      exact hnx _ _ ⟨J6, rfl⟩
    rw [if_pos c2]
    simp only [sortDictS, dictRd, hf6]
    obtain ⟨ks, ek⟩ := funs_keys wf
    have elk : ks.length = kvs.length := by simpa using (congrArg List.length ek).symm
    refine ⟨ks, ek, by have := wf.1; omega, fun ys p hy _ hp => ?_⟩
    have hf7 := at_lay (o := .lst (ys.map D.str)) hf6 hp
    simp only [lenDict, dictOf, hf7]
    refine (J6.new hp).pickAt put_same (J6.P.s_some hp).1 (by rw [List.length_map, hy.length_eq, elk]) (by rw [List.length_map, hy.length_eq]; omega) (by rw [List.length_map, hy.length_eq]; have := wf.1; omega) fun v M7 hv J7 e7 => ?_
    obtain ⟨x, hx, rfl⟩ := List.mem_map.mp hv
    have hx' := hy.mem_iff.mp hx
    obtain ⟨ox, vx⟩ := funs_at wf ek hx'
    have hf8 : M7 fa = some (.dk kvs) := e7 _ _ n3 hf7
    simp only [hf8, keyD, vx, ixG_t0, lenG_tup]
    simp
    intro q hq
    refine dCL_draws Ex.toD (fun e => e.wf okw ∧ dep e.toD ≤ 1) (J7.new hq) (.new J7 hq) (by simp) (fun _ _ _ => trivial) (fun i d M' k' hd' _ _ _ => by simp at hd') fun xs M8 hx8 _ J8 _ O8 => ?_
    obtain rfl : xs = [] := by simpa using hx8
    simp only [tupG, seqOf, O8.a, addD]
    refine ⟨by rw [sizeLine_eq]; simp, by rw [sizeLine_eq]; simp, ?_⟩
    have := fin (Ex.nd "call" (some x) [a] none) M8 (cl_wf (.inl rfl) ox (by simp) (by simpa using wa)) (nd_dep_le (by simp) (by simpa using da)) J8
    simpa [Ex.toD, nmD, tlD, Ex.toDs] using this
  rintro τ M7 ⟨J7, rfl⟩
  -- look
  have hr7 : M7 ra = some (.lst (rows.map rowD)) := J7.X _ _ n2 hr
  walk_at "dl"
  simp only [lenG_at hr7, List.length_map, eqD_int, decide_eq_true_eq]
  by_cases c : (rows.length : Int) = 0
  · rw [if_pos c]
    exact fin a M7 wa (by omega) J7
  rw [if_neg c]
  refine J7.pickAt hr7 n2 (by simp) (by simp; omega) (by have := wr.1; simp; omega) fun v M8 hv J8 e8 => ?_
  obtain ⟨r, hr', rfl⟩ := List.mem_map.mp hv
  obtain ⟨ox, r1, r2⟩ := wr.2 r hr'
  unfold rowD
  simp only [ixG_t0, ixG_t1]
  refine ⟨by first | omega | (rw [sizeLine_eq]; omega), by first | omega | (rw [sizeLine_eq]; omega), fun p hp => ?_⟩
  refine dCL_draws Ex.toD (fun e => e.wf okw ∧ dep e.toD ≤ 1) (J8.new hp) (.new J8 hp) (by rw [len_rng]; omega) (fun _ _ _ => trivial) (fun i d M' k' _ J' _ hk => ?_) fun xs M9 hx hG J9 _ O9 => ?_
  · walk_at "dl"
    exact sub 0 _ _ _ _ J' rfl (by omega) (by omega) fun e M9 we de J9 e9 => hk e M9 ⟨we, de⟩ J9 e9
  rw [len_rng] at hx
  simp only [ixG_t0, ixG_t1, tupG, seqOf, O9.a, addD]
  refine ⟨by rw [sizeLine_eq]; simp, by rw [sizeLine_eq]; simp; omega, ?_⟩
  have := fin (Ex.nd "look" (some r.1) (a :: xs) none) M9 (cl_wf (.inr rfl) ox (by simp; omega) ?_) (nd_dep_le (by simp) ?_) J9
  · simpa [Ex.toD, nmD, tlD, Ex.toDs, toDs_map] using this
  · intro x hx
    rcases List.mem_cons.mp hx with rfl | hx
    · exact wa
    · exact (hG x hx).1
  · intro x hx
    rcases List.mem_cons.mp hx with rfl | hx
    · exact da
    · have := (hG x hx).2; omega
end K06

set_option maxHeartbeats 4000000
namespace K06
open PySem L2 DL
local macro_rules | `(tactic| walk_at "dl") => `(tactic| simp only [dSeq, dIfS, dB, dTru, truD, dOp, dVar, dC, dAsg, dAug, dCB, dCons, dNil, dRet, dRetN, dName, dGSub, dNext, ends, exOf, dstart, slot, oI0, oI, dAnd, dOr, dNot, dAndV, dOrV, dNotV, dNeg, dSl, dNoP, dPart, dFld, dFldS, dRaise, dLst, dTup, dFor, dIter, dRng1, dRng2, dCall, dMake, dMeth, dIxO, dLc, dYes, dGTup, dGCons, dGNil, dDrop, dBreak, dBM, dDIn, dDGet, dDGet2, dDNew, dGSubD, dDStar,
  eqD_str, neD_str, eqD_int, neD_int, ixG_t0, ixG_t1, isiG_str, isi_int, isi_int_s, isi_int_t, isi_tup, isi_tup_s, isi_tup_i, isi_str_i, isi_str_t, lenG_tup, addD_int, mulD_int, intG, List.nil_append, bne_iff_ne, ofS_inj, Bool.false_bne, Bool.true_bne,
  List.map, List.length_cons, List.length_nil, List.cons_append, List.append_nil, List.replicate, List.set, List.getElem?_cons_zero, List.getElem?_cons_succ, Option.join_some, Option.bind_some, decide_eq_true_eq])
variable {K : PySem.W.Frag} {A : Adr}
theorem low_okw {x : Str} (h : low x) : okw x := ⟨low_ok h, fun e => by
  obtain ⟨hi, e⟩ := Array.getElem?_eq_some_iff.mp e
  have : x.cps[0] ∈ x.cps.toList := by simp
  have := h _ this
  omega⟩
def heads10 : List Str := ["plus", "is", "call", "look", "table", "book", "all", "some", "law", "use"]
theorem heads10_ok {h : Str} (hh : h ∈ heads10) : okw h := by
  simp only [heads10, List.mem_cons, List.not_mem_nil, or_false] at hh
  rcases hh with rfl | rfl | rfl | rfl | rfl | rfl | rfl | rfl | rfl | rfl <;> exact ⟨by decide +kernel, by decide +kernel⟩
theorem sum_ones : ∀ {xs : List Str}, (∀ x, x ∈ xs → x.length = 1) → (xs.map (·.length)).sum = xs.length
  | [], _ => rfl
  | x :: xs, h => by
    have := sum_ones (xs := xs) fun y hy => h y (List.mem_cons_of_mem _ hy)
    simp [h x List.mem_cons_self, this]
    omega
abbrev lets : Str := "abcdefghijklmnopqrstuvwxyz"
theorem r_law_new : ∀ ds M Q E, sp_law_new ds M Q E → t_law_new K A (ends Q E) (dstart N_law_new ds) M := by
  rintro ds M Q E ⟨s, l, ns, u, used, rfl, P, n1, hu, k⟩
  have J := LS.zero (S := Is s) P rfl
  unfold t_law_new N_law_new
  simp only [dstart, List.map, List.length_cons, List.length_nil, List.replicate, List.cons_append, List.nil_append]
  refine seq_split (fun τ M' => M = M' ∧ τ = [some (.ref s), some (.ref u), some (.str lets), none, none, none, none]) ?_ ?_
  rotate_left
  · intro nx hnx
    walk_at "dl"
    exact hnx _ _ ⟨rfl, rfl⟩
  rintro τ M' ⟨rfl, rfl⟩
  refine seq_split (fun τ M' => LS (Is s) M M' s l ns ∧ ∃ p, Own (Is s) M M' s l p (.lst (heads10.map D.str)) ∧ τ = [some (.ref s), some (.ref u), some (.str lets), some (.ref p), none, none, none]) ?_ ?_
  rotate_left
  · intro nx hnx
    walk_at "dl"
    exact ⟨by rw [sizeLine_eq]; omega, fun p hp => hnx _ _ ⟨J.new hp, p, .new J hp, rfl⟩⟩
  rintro τ M1 ⟨J1, p, O1, rfl⟩
  refine seq_split (fun τ M' => LS (Is s) M M' s l ns ∧ Own (Is s) M M' s l p (.lst (heads10.map D.str)) ∧ ∃ way : Int, τ = [some (.ref s), some (.ref u), some (.str lets), some (.ref p), some (.int way), none, none]) ?_ ?_
  rotate_left
  · intro nx hnx
    walk_at "dl"
    exact J1.pick (by decide) (by decide) fun r M2 _ _ J2 e2 => hnx _ _ ⟨J2, O1.ext e2, r, rfl⟩
  rintro τ M2 ⟨J2, O2, way, rfl⟩
  refine seq_split (fun τ M' => LS (Is s) M M' s l ns ∧ Own (Is s) M M' s l p (.lst (heads10.map D.str)) ∧ ∃ w, okw w ∧ τ = [some (.ref s), some (.ref u), some (.str lets), some (.ref p), some (.int way), some (.str w), none]) ?_ ?_
  rotate_left
  · intro nx hnx
    walk_at "dl"
    exact J2.letter (by decide) (by decide) fun x M2 hx _ J2 e2 => hnx _ _ ⟨J2, O2.ext e2, x, low_okw hx, rfl⟩
  rintro τ M3 ⟨J3, O3, w, hw, rfl⟩
  refine seq_split (fun τ M' => LS (Is s) M M' s l ns ∧ Own (Is s) M M' s l p (.lst (heads10.map D.str)) ∧ ∃ w, okw w ∧ τ = [some (.ref s), some (.ref u), some (.str lets), some (.ref p), some (.int way), some (.str w), none]) ?_ ?_
  rotate_left
  · intro nx hnx
    walk_at "dl"
    by_cases c : way = 2
    rotate_left
    · rw [if_neg c]
      exact hnx _ _ ⟨J3, O3, w, hw, rfl⟩
    rw [if_pos c]
    simp only [metT, true_and]
    refine J3.pick (by decide) (by decide) fun r M6 r0 r1 J6 e6 => ?_
    refine ⟨by first | omega | (rw [sizeLine_eq]; omega), by first | omega | (rw [sizeLine_eq]; omega), fun q hq => ?_⟩
    refine dCL_draws D.str (fun x => low x ∧ x.length = 1) (J6.new hq) (.new J6 hq) (by rw [len_rng]; omega) (fun _ _ _ => trivial) (fun i d M' k' _ J' _ hk => ?_) fun xs M7 hx hG J7 e7 O7 => ?_
    · walk_at "dl"
      exact J'.letter (by decide) (by decide) fun x M7 hx hl J7 e7 => hk x M7 ⟨hx, hl⟩ J7 e7
    · rw [len_rng] at hx
      simp only [joinM, seqD, seqOf, O7.a, Option.bind_some, strsOf_map]
      rw [sum_ones fun x hx => (hG x hx).2]
      have O8 := ((O3.ext e6).lay hq (u := .lst [])).extS (S2 := fun a => a = s ∨ a = q) (by
        rintro (z | z)
        · exact O3.ns z
        · exact ((O3.ext e6).ne hq) z.symm) e7
      exact ⟨by have : ("" : Str).length = 0 := by decide
                rw [this]; omega, hnx _ _ ⟨J7, O8, _, low_okw (low_join fun x hx => (hG x hx).1), rfl⟩⟩
  rintro τ M4 ⟨J4, O4, w, hw, rfl⟩
  refine seq_split (fun τ M' => LS (Is s) M M' s l ns ∧ ∃ w, okw w ∧ τ = [some (.ref s), some (.ref u), some (.str lets), some (.ref p), some (.int way), some (.str w), none]) ?_ ?_
  rotate_left
  · intro nx hnx
    walk_at "dl"
    by_cases c : way = 3
    rotate_left
    · rw [if_neg c]
      exact hnx _ _ ⟨J4, w, hw, rfl⟩
    rw [if_pos c]
    refine J4.pickAt O4.a O4.ns rfl (by decide) (by decide) fun v M5 hv J5 _ => ?_
    obtain ⟨x, hx, rfl⟩ := List.mem_map.mp hv
    exact hnx _ _ ⟨J5, x, heads10_ok hx, rfl⟩
  rintro τ M5 ⟨J5, w, hw, rfl⟩
  have hu5 : M5 u = some (.lst (used.map D.str)) := J5.X _ _ n1 hu
  refine seq_split (fun τ M' => M5 = M' ∧ ∃ w o, okw w ∧ τ = [some (.ref s), some (.ref u), some (.str lets), some (.ref p), some (.int way), some (.str w), o]) ?_ ?_
  rotate_left
  · intro nx hnx
    walk_at "dl"
    refine ⟨by first | omega | decide | (rw [sizeLine_eq]; omega), by first | omega | decide | (rw [sizeLine_eq]; omega), ?_⟩
    refine dLoop_inv (fun i τ M' => M5 = M' ∧ ∃ w o, okw w ∧ τ = [some (.ref s), some (.ref u), some (.str lets), some (.ref p), some (.int way), some (.str w), o]) (fun _ _ _ _ _ => trivial) ?_ ?_ ⟨rfl, w, _, hw, rfl⟩
    · rintro i d τ M' nxt hd ⟨rfl, w, o, hw, rfl⟩ hnx'
      obtain ⟨hi, rfl⟩ := rng_at hd
      walk_at "dl"
      rw [inG_strs hu5]
      by_cases c : w ∈ used
      · simp only [c, decide_true, Bool.true_bne, Bool.not_true, Bool.false_eq_true, if_false]
        refine ⟨⟨by decide, by decide⟩, ixG_letter (by omega) (by omega) fun a ha la => ⟨by omega, ixG_letter (by omega) (by omega) fun b hb lb => ?_⟩⟩
        simp only [addD]
        exact ⟨by rw [la, lb, sizeLine_eq]; omega, hnx' _ _ ⟨rfl, _, _, low_okw (low_app ha hb), rfl⟩⟩
      · simp only [c, decide_false, Bool.true_bne, Bool.not_false, if_true]
        exact hnx _ _ ⟨rfl, w, _, hw, rfl⟩
    · rintro τ M' ⟨rfl, w, o, hw, rfl⟩
      exact hnx _ _ ⟨rfl, w, o, hw, rfl⟩
  rintro τ M6 ⟨rfl, w, o, hw, rfl⟩
  walk_at "dl"
  exact dropQ_of (k w hw _ J5.P J5.X) .refl
theorem _root_.DL.LS.word {S : Addr → Prop} {M0 M : Mp} {s l u : Addr} {ns : List Int} {used : List Str} {Q : DK} {E : EK} (J : LS S M0 M s l ns) (n1 : u ≠ s) (hu : M u = some (.lst (used.map D.str))) (k : ∀ (x : Str) (M' : Mp), okw x → LS S M0 M' s l ns → Ext (Is s) M M' → Q (.str x) M') : sp_law_new [.ref s, .ref u] M Q E :=
  ⟨s, l, ns, u, used, rfl, J.P, n1, hu, fun x hx => drawn_ls J fun M' J' e => k x M' hx J' e⟩
theorem r_law_names : ∀ ds M Q E, sp_law_names ds M Q E → t_law_names K A (ends Q E) (dstart N_law_names ds) M := by
  rintro ds M Q E ⟨s, l, ns, u, used, rfl, P, n1, hu, hlu, k⟩
  have J := LS.zero (S := Is s) P rfl
  unfold t_law_names N_law_names
  walk_at "dl"
  refine ⟨by rw [sizeLine_eq]; omega, fun p hp => ⟨by first | omega | decide | (rw [sizeLine_eq]; omega), by first | omega | decide | (rw [sizeLine_eq]; omega), ?_⟩⟩
  refine dLoop_inv (fun i τ M' => LS (Is s) M M' s l ns ∧ ∃ (p : Addr) (xs : List Str) (o : Option D), Own (Is s) M M' s l p (.lst (xs.map D.str)) ∧ xs.length = i ∧ (∀ x, x ∈ xs → okw x) ∧ τ = [some (.ref s), some (.ref u), some (.int 5), some (.ref p), o]) (fun _ _ _ _ _ => trivial) ?_ ?_ ⟨J.new hp, p, [], _, .new J hp, rfl, (fun _ h => nomatch h), rfl⟩
  · rintro i d τ M' nxt hd ⟨J', p, xs, o, O, hx, hw, rfl⟩ hnx
    obtain ⟨hi, rfl⟩ := rng_at hd
    walk_at "dl"
    have hu' : M' u = some (.lst (used.map D.str)) := J'.X _ _ n1 hu
    simp only [metT, O.a, true_and, addD, hu', ← List.map_append]
    refine ⟨by simp; rw [sizeLine_eq]; have : i < 5 := hi; omega, fun q hq => ?_⟩
    refine (J'.new hq).word (J'.P.s_some hq).1 put_same fun x M2 ox J2 e2 => ?_
    have O2 := (O.lay hq).ext e2
    simp only [appendM, O2.a]
    refine ⟨by simp; rw [sizeLine_eq]; have : i < 5 := hi; omega, hnx _ _ ⟨J2.set O2, p, xs ++ [x], _, by rw [List.map_append]; exact O2.set, by simp [hx], fun y hy => ?_, rfl⟩⟩
    rcases List.mem_append.mp hy with h | h
    · exact hw y h
    · rw [List.mem_singleton.mp h]; exact ox
  · rintro τ M' ⟨J', p, xs, o, O, hx, hw, rfl⟩
    rw [len_rng] at hx
    walk_at "dl"
    exact dropQ_of (k p xs (O.z.resolve_right O.ns) hx ⟨by rw [hx]; decide, hw⟩ M' J'.P J'.X O.a) .refl
end K06

set_option maxHeartbeats 4000000
namespace K06
open PySem L2 DL
local macro_rules | `(tactic| walk_at "dl") => `(tactic| simp only [dSeq, dIfS, dB, dTru, truD, dOp, dVar, dC, dAsg, dAug, dCB, dCons, dNil, dRet, dRetN, dName, dGSub, dNext, ends, exOf, dstart, slot, oI0, oI, dAnd, dOr, dNot, dAndV, dOrV, dNotV, dNeg, dSl, dNoP, dPart, dFld, dFldS, dRaise, dLst, dTup, dFor, dIter, dRng1, dRng2, dCall, dMake, dMeth, dIxO, dLc, dYes, dGTup, dGCons, dGNil, dDrop, dBreak, dBM, dDIn, dDGet, dDGet2, dDNew, dGSubD, dDStar,
  eqD_str, neD_str, eqD_int, neD_int, ixG_t0, ixG_t1, isiG_str, isi_int, isi_int_s, isi_int_t, isi_tup, isi_tup_s, isi_tup_i, isi_str_i, isi_str_t, lenG_tup, addD_int, mulD_int, intG, List.nil_append, bne_iff_ne, ofS_inj, Bool.false_bne, Bool.true_bne,
  List.map, List.length_cons, List.length_nil, List.cons_append, List.append_nil, List.replicate, List.set, List.getElem?_cons_zero, List.getElem?_cons_succ, Option.join_some, Option.bind_some, decide_eq_true_eq])
variable {K : PySem.W.Frag} {A : Adr}
abbrev S2 (s r : Addr) : Addr → Prop := fun a => a = s ∨ a = r
def keyS : Key → Str
  | .inr x => x
  | .inl _ => ""
def numAt (kvs : List (Key × D)) (k : Key) : Int := match valD kvs k with
  | some (.int i) => i
  | _ => 0
theorem names_at {nv : List (Key × D)} (h : NamesOk nv) {q : Key × D} (hq : q ∈ nv) : okw (keyS q.1) ∧ q.1 = .inr (keyS q.1) ∧ valD nv q.1 = some (.int (numAt nv q.1)) ∧ 0 ≤ numAt nv q.1 ∧ numAt nv q.1 ≤ 3 := by
  obtain ⟨x, i, rfl, ox, _⟩ := h.2.2 q hq
  obtain ⟨v, e, hm⟩ := valD_mem hq
  obtain ⟨y, j, e2, oy, j0, j1⟩ := h.2.2 _ hm
  simp only [Prod.mk.injEq] at e2
  obtain ⟨e3, rfl⟩ := e2
  have : numAt nv (.inr x) = j := by
    unfold numAt
    simp only at e
    rw [e]
  simp only at e ⊢
  rw [this]
  exact ⟨ox, rfl, e, j0, j1⟩
def numsOf (nv : List (Key × D)) : List (Option Str) := nv.map fun q => if numAt nv q.1 = 0 then some (keyS q.1) else none
def rowsOf (nv : List (Key × D)) : List (Option (Str × Int)) := nv.map fun q => if 0 < numAt nv q.1 then some (keyS q.1, numAt nv q.1) else none
theorem nums_ok {nv : List (Key × D)} (h : NamesOk nv) : WordsOk ((numsOf nv).filterMap id) := by
  refine ⟨?_, fun x hx => ?_⟩
  · have := List.length_filterMap_le id (numsOf nv)
    have := h.2.1
    unfold numsOf at *
    rw [List.length_map] at *
    omega
  · obtain ⟨o, ho, e⟩ := List.mem_filterMap.mp hx
    obtain ⟨q, hq, rfl⟩ := List.mem_map.mp ho
    simp only [id] at e
    split at e
    · cases e; exact (names_at h hq).1
    · cases e
theorem rows_ok {nv : List (Key × D)} (h : NamesOk nv) : RowsOk ((rowsOf nv).filterMap id) := by
  refine ⟨?_, fun x hx => ?_⟩
  · have := List.length_filterMap_le id (rowsOf nv)
    have := h.2.1
    unfold rowsOf at *
    rw [List.length_map] at *
    omega
  · obtain ⟨o, ho, e⟩ := List.mem_filterMap.mp hx
    obtain ⟨q, hq, rfl⟩ := List.mem_map.mp ho
    simp only [id] at e
    split at e
    · cases e
      have := names_at h hq
      exact ⟨this.1, by simp only; omega, this.2.2.2.2⟩
    · cases e
theorem comp_nums {τ : Sl} {M : Mp} {Dn : DN} {i x j : Nat} {a : Addr} {nv : List (Key × D)} (e : slot τ i = some (.ref a)) (hx : x < τ.length) (hi : i ≠ x) (ha : M a = some (.dk nv)) (h : NamesOk nv) (nx : ∀ p xs, M p = none → WordsOk xs → Dn.nx (τ.set j (some (.ref p))) (put M p (.lst (xs.map D.str)))) :
    dLock (dAsg (dLc (dKeys (dVar i)) (fun d τ => τ.set x (some d)) (dB (dOp eqD (dDGet (dVar i) (dVar x)) (dC (.int 0)))) (dVar x) [x]) (dName j)) Dn τ M := by
  refine lock_comp D.str e ha (by have := h.2.1; omega) (numsOf nv) (by simp [numsOf]) (fun n q o M' k k2 hq ho hM h1 h2 => ?_) fun p hp => nx p _ hp (nums_ok h)
  have hm := List.mem_of_getElem? hq
  obtain ⟨ok, ek, ev, n0, n1⟩ := names_at h hm
  have e1 : slot ((wipeD τ [x]).set x (some (ofKey q.1))) i = some (.ref a) := by
    unfold slot at e ⊢
    rw [List.getElem?_set_ne (Ne.symm hi)]
    simp only [wipeD]
    rw [List.getElem?_set_ne (Ne.symm hi)]
    exact e
  have e2 : slot ((wipeD τ [x]).set x (some (ofKey q.1))) x = some (ofKey q.1) := by
    unfold slot
    rw [List.getElem?_set_self (by rw [wipeD_length]; exact hx)]
    rfl
  have e3 : ofKey q.1 = .str (keyS q.1) := by rw [ek]; rfl
  rw [e3] at e1 e2
  have eo : o = if numAt nv q.1 = 0 then some (keyS q.1) else none := by
    unfold numsOf at ho
    rw [List.getElem?_map, hq] at ho
    simpa using ho.symm
  simp only [dB, dOp, dDGet, dVar, e1, e2, dC, dictRd, hM, e3, keyD, ← ek, ev, eqD_int]
  by_cases c : numAt nv q.1 = 0
  · rw [if_pos (by simpa using c)]
    rw [if_pos c] at eo
    exact h1 _ eo
  · rw [if_neg (by simpa using c)]
    rw [if_neg c] at eo
    exact h2 eo
theorem comp_rows {τ : Sl} {M : Mp} {Dn : DN} {i x j : Nat} {a : Addr} {nv : List (Key × D)} (e : slot τ i = some (.ref a)) (hx : x < τ.length) (hi : i ≠ x) (ha : M a = some (.dk nv)) (h : NamesOk nv) (nx : ∀ p xs, M p = none → RowsOk xs → Dn.nx (τ.set j (some (.ref p))) (put M p (.lst (xs.map rowD)))) :
    dLock (dAsg (dLc (dKeys (dVar i)) (fun d τ => τ.set x (some d)) (dB (dOp (oI0 fun i j => .bl (decide (j < i))) (dDGet (dVar i) (dVar x)) (dC (.int 0)))) (dTup (dCons (dVar x) (dCons (dDGet (dVar i) (dVar x)) dNil))) [x]) (dName j)) Dn τ M := by
  refine lock_comp rowD e ha (by have := h.2.1; omega) (rowsOf nv) (by simp [rowsOf]) (fun n q o M' k k2 hq ho hM h1 h2 => ?_) fun p hp => nx p _ hp (rows_ok h)
  have hm := List.mem_of_getElem? hq
  obtain ⟨ok, ek, ev, n0, n1⟩ := names_at h hm
  have e1 : slot ((wipeD τ [x]).set x (some (ofKey q.1))) i = some (.ref a) := by
    unfold slot at e ⊢
    rw [List.getElem?_set_ne (Ne.symm hi)]
    simp only [wipeD]
    rw [List.getElem?_set_ne (Ne.symm hi)]
    exact e
  have e2 : slot ((wipeD τ [x]).set x (some (ofKey q.1))) x = some (ofKey q.1) := by
    unfold slot
    rw [List.getElem?_set_self (by rw [wipeD_length]; exact hx)]
    rfl
  have e3 : ofKey q.1 = .str (keyS q.1) := by rw [ek]; rfl
  rw [e3] at e1 e2
  have eo : o = if 0 < numAt nv q.1 then some (keyS q.1, numAt nv q.1) else none := by
    unfold rowsOf at ho
    rw [List.getElem?_map, hq] at ho
    simpa using ho.symm
  simp only [dB, dOp, dDGet, dVar, e1, e2, dC, dictRd, hM, e3, keyD, ← ek, ev, oI0, dTup, dCons, dNil]
  by_cases c : 0 < numAt nv q.1
  · rw [if_pos (by simpa using c)]
    rw [if_pos c] at eo
    exact ⟨by rw [sizeLine_eq]; simp, h1 _ eo⟩
  · rw [if_neg (by simpa using c)]
    rw [if_neg c] at eo
    exact h2 eo
/-- an expression is drawn -/
theorem _root_.DL.LS.expr {S : Addr → Prop} {M0 M : Mp} {s l na ra fa : Addr} {ns : List Int} {n : Nat} {Q : DK} {E : EK} (J : LS S M0 M s l ns) {nums : List Str} {rows : List (Str × Int)} {kvs : List (Key × D)} {i : Int} (n1 : na ≠ s) (n2 : ra ≠ s) (n3 : fa ≠ s) (hn : M na = some (.lst (nums.map D.str))) (wn : WordsOk nums)
    (hr : M ra = some (.lst (rows.map rowD))) (wr : RowsOk rows) (hf : M fa = some (.dk kvs)) (wf : FunsOk kvs) (i0 : 0 ≤ i) (i1 : i ≤ 2) (i2 : i < n) (k : ∀ (e : Ex) (M' : Mp), e.wf okw → dep e.toD ≤ 3 → LS S M0 M' s l ns → Ext (Is s) M M' → Q e.toD M') :
    sp_law_expression n [.ref s, .ref na, .ref ra, .ref fa, .int i] M Q E := by
  obtain ⟨lv, rfl⟩ : ∃ lv : Nat, i = lv := ⟨i.toNat, by omega⟩
  exact ⟨s, l, ns, na, ra, fa, nums, rows, kvs, lv, rfl, J.P, n1, n2, n3, hn, wn, hr, wr, hf, wf, by omega, by omega, fun e w1 w2 => drawn_ls J fun M2 J2 e2 => k e M2 w1 (by omega) J2 e2⟩
end K06

set_option maxHeartbeats 4000000
namespace K06
open PySem L2 DL
local macro_rules | `(tactic| walk_at "dl") => `(tactic| simp only [dSeq, dIfS, dB, dTru, truD, dOp, dVar, dC, dAsg, dAug, dCB, dCons, dNil, dRet, dRetN, dName, dGSub, dNext, ends, exOf, dstart, slot, oI0, oI, dAnd, dOr, dNot, dAndV, dOrV, dNotV, dNeg, dSl, dNoP, dPart, dFld, dFldS, dRaise, dLst, dTup, dFor, dIter, dRng1, dRng2, dCall, dMake, dMeth, dIxO, dLc, dYes, dGTup, dGCons, dGNil, dDrop, dBreak, dBM, dDIn, dDGet, dDGet2, dDNew, dGSubD, dDStar,
  eqD_str, neD_str, eqD_int, neD_int, ixG_t0, ixG_t1, isiG_str, isi_int, isi_int_s, isi_int_t, isi_tup, isi_tup_s, isi_tup_i, isi_str_i, isi_str_t, lenG_tup, addD_int, mulD_int, intG, List.nil_append, bne_iff_ne, ofS_inj, Bool.false_bne, Bool.true_bne,
  List.map, List.length_cons, List.length_nil, List.cons_append, List.append_nil, List.replicate, List.set, List.getElem?_cons_zero, List.getElem?_cons_succ, Option.join_some, Option.bind_some, decide_eq_true_eq])
variable {K : PySem.W.Frag} {A : Adr}
theorem lits_ab : ([D.str "allbelow", D.str "somebelow"] : List D) = (["allbelow", "somebelow"] : List Str).map D.str := rfl
theorem pst_ne {M : Mp} {s l a : Addr} {ns : List Int} {kvs : List (Key × D)} (P : PSt M s l ns) (h : M a = some (.dk kvs)) : a ≠ s := by
  rintro rfl
  obtain ⟨_, _, _, _, _, hs, _⟩ := P
  rw [hs] at h; cases h
theorem key_names {nv : List (Key × D)} (h : NamesOk nv) {v : D} (hv : v ∈ nv.map fun q => ofKey q.1) : ∃ q, q ∈ nv ∧ v = .str (keyS q.1) ∧ okw (keyS q.1) := by
  obtain ⟨q, hq, rfl⟩ := List.mem_map.mp hv
  have := names_at h hq
  exact ⟨q, hq, by rw [this.2.1]; rfl, this.1⟩
theorem names_put {nv : List (Key × D)} (h : NamesOk nv) (hl : nv.length ≤ 50) {x : Str} (ox : okw x) {b : Int} (b0 : 0 ≤ b) (b1 : b ≤ 3) : NamesOk (putKD nv (.inr x) (.int b)) := by
  refine ⟨putKD_ne, by have := putKD_length (l := nv) (k := .inr x) (d := .int b); omega, fun q hq => ?_⟩
  rcases putKD_mem hq with rfl | hq
  · exact ⟨x, b, rfl, ox, b0, b1⟩
  · exact h.2.2 q hq
set_option maxHeartbeats 2000000 in
theorem r_law_met {n : Nat} : ∀ ds M Q E, sp_law_met (n + 1) ds M Q E → t_law_met K A n (ends Q E) (dstart N_law_met ds) M := by
  rintro ds M Q E ⟨s, l, ns, na, fa, ro, nv, kvs, i, lv, rfl, P, hna, wna, hlen, hfa, wfa, hro, nrs, nrl, hd, k⟩
  have nas := pst_ne P hna
  have nfs := pst_ne P hfa
  have nar : na ≠ ro := by rintro rfl; rw [hro] at hna; cases hna
  have nfr : fa ≠ ro := by rintro rfl; rw [hro] at hfa; cases hfa
  have J := LS.zero (S := S2 s ro) P (.inl rfl)
  have na' : ∀ {M'}, LS (S2 s ro) M M' s l ns → M' na = some (.dk nv) := fun J' => J'.X _ _ (fun z => z.elim nas nar) hna
  have fa' : ∀ {M'}, LS (S2 s ro) M M' s l ns → M' fa = some (.dk kvs) := fun J' => J'.X _ _ (fun z => z.elim nfs nfr) hfa
  have fin : ∀ (S : Se) M' j, S.wf okw → S.ht ≤ lv + 1 → szD S.toD + 4 ≤ 41500 * 2 ^ lv → LS (S2 s ro) M M' s l ns → M' ro = some (.lst [.int j]) → dropQ Q S.toD M' := fun S M' j h1 h2 h3 J' h4 => dropQ_of (k S M' j h1 h2 h3 J'.P J'.X h4) .refl
  have p2 : 1 ≤ 2 ^ lv := Nat.one_le_two_pow
  unfold t_law_met N_law_met
  simp only [dstart, List.map, List.length_cons, List.length_nil, List.replicate, List.cons_append, List.nil_append]
  refine seq_split (fun τ M' => LS (S2 s ro) M M' s l ns ∧ M' ro = some (.lst [.int i]) ∧ ∃ way : Int, τ = [some (.ref s), some (.ref na), some (.ref fa), some (.int lv), some (.ref ro), some (.int way), none, none, none, none, none, none, none, none]) ?_ ?_
  rotate_left
  · intro nx hnx
    walk_at "dl"
    exact J.pick (by decide) (by decide) fun way M1 r0 r1 J1 e1 => hnx _ _ ⟨J1, e1 _ _ nrs hro, way, rfl⟩
  rintro τ M1 ⟨J1, R1, way, rfl⟩
  -- an atom
  refine seq_split (fun τ M' => lv ≠ 0 ∧ LS (S2 s ro) M M' s l ns ∧ M' ro = some (.lst [.int i]) ∧ τ = [some (.ref s), some (.ref na), some (.ref fa), some (.int lv), some (.ref ro), some (.int way), none, none, none, none, none, none, none, none]) ?_ ?_
  rotate_left
  · intro nx hnx
    refine ifS_p (lv = 0 ∨ way < 2) (fun Q E q1 q2 => ?_) (fun c => ?_) fun c => hnx _ _ ⟨fun z => c (.inl z), J1, R1, rfl⟩
    · walk_at "dl"
      by_cases c1 : lv = 0 <;> by_cases c2 : way < 2 <;> simp [c1, c2] at q1 q2 ⊢ <;> assumption
    refine seq_split (fun τ M' => LS (S2 s ro) M M' s l ns ∧ M' ro = some (.lst [.int i]) ∧ ∃ p xs, Own (S2 s ro) M M' s l p (.lst (xs.map D.str)) ∧ WordsOk xs ∧ τ = [some (.ref s), some (.ref na), some (.ref fa), some (.int lv), some (.ref ro), some (.int way), some (.ref p), none, none, none, none, none, none, none]) ?_ ?_
    rotate_left
    · intro nx hnx
      exact comp_nums rfl (by simp) (by decide) (na' J1) wna fun p xs hp w => hnx _ _ ⟨J1.new hp, at_lay R1 hp, p, xs, .new J1 hp, w, rfl⟩
    rintro τ M2 ⟨J2, R2, p, xs, O2, wp, rfl⟩
    refine seq_split (fun τ M' => LS (S2 s ro) M M' s l ns ∧ M' ro = some (.lst [.int i]) ∧ Own (S2 s ro) M M' s l p (.lst (xs.map D.str)) ∧ ∃ q ys, Own (S2 s ro) M M' s l q (.lst (ys.map rowD)) ∧ RowsOk ys ∧ τ = [some (.ref s), some (.ref na), some (.ref fa), some (.int lv), some (.ref ro), some (.int way), some (.ref p), some (.ref q), none, none, none, none, none, none]) ?_ ?_
    rotate_left
    · intro nx hnx
      exact comp_rows rfl (by simp) (by decide) (na' J2) wna fun q ys hq w => hnx _ _ ⟨J2.new hq, at_lay R2 hq, O2.lay hq, q, ys, .new J2 hq, w, rfl⟩
    rintro τ M3 ⟨J3, R3, O3, q, ys, O3', wq, rfl⟩
    refine seq_split (fun τ M' => LS (S2 s ro) M M' s l ns ∧ M' ro = some (.lst [.int i]) ∧ Own (S2 s ro) M M' s l p (.lst (xs.map D.str)) ∧ Own (S2 s ro) M M' s l q (.lst (ys.map rowD)) ∧ ∃ a : Ex, a.wf okw ∧ dep a.toD ≤ 3 ∧ τ = [some (.ref s), some (.ref na), some (.ref fa), some (.int lv), some (.ref ro), some (.int way), some (.ref p), some (.ref q), some a.toD, none, none, none, none, none]) ?_ ?_
    rotate_left
    · intro nx hnx
      walk_at "dl"
      refine J3.pick (by decide) (by decide) fun r M4 r0 r1 J4 e4 => ?_
      exact J4.expr O3.ns O3'.ns nfs (O3.ext e4).a wp (O3'.ext e4).a wq (fa' J4) wfa r0 (by omega) (by omega) fun a M5 wa da J5 e5 => hnx _ _ ⟨J5, e5 _ _ nrs (e4 _ _ nrs R3), (O3.ext e4).ext e5, (O3'.ext e4).ext e5, a, wa, da, rfl⟩
    rintro τ M4 ⟨J4, R4, O4, O4', a, wa, da, rfl⟩
    walk_at "dl"
    refine J4.pick (by decide) (by decide) fun r M5 r0 r1 J5 e5 => ?_
    refine J5.expr O4.ns O4'.ns nfs (O4.ext e5).a wp (O4'.ext e5).a wq (fa' J5) wfa r0 (by omega) (by omega) fun b M6 wb db J6 e6 => ?_
    refine ⟨by rw [sizeLine_eq]; simp, ?_⟩
    have za := Ex.sz3 wa da
    have zb := Ex.sz3 wb db
    exact fin (.is a b) M6 i ⟨wa, wb, da, db⟩ (by simp [Se.ht]) (by rw [is_sz]; omega) J6 (e6 _ _ nrs (e5 _ _ nrs R4))
  rintro τ M2 ⟨lv0, J2, R2, rfl⟩
  obtain ⟨v, rfl⟩ : ∃ v, lv = v + 1 := ⟨lv - 1, by omega⟩
  have el : (((v + 1 : Nat) : Int) - 1) = ((v : Nat) : Int) := by omega
  have pv : 1 ≤ 2 ^ v := Nat.one_le_two_pow
  rw [Nat.pow_succ] at fin
  -- what is beneath
  have sub : ∀ (na2 : Addr) (nv2 : List (Key × D)) (j : Int) (M' : Mp) (Q' : DK) (E' : EK), LS (S2 s ro) M M' s l ns → M' na2 = some (.dk nv2) → NamesOk nv2 → nv2.length + v ≤ 50 → M' ro = some (.lst [.int j]) →
      (∀ (S : Se) M2 j2, S.wf okw → S.ht ≤ v + 1 → szD S.toD + 4 ≤ 41500 * 2 ^ v → LS (S2 s ro) M M2 s l ns → Ext (S2 s ro) M' M2 → M2 ro = some (.lst [.int j2]) → Q' S.toD M2) → sp_law_met n [.ref s, .ref na2, .ref fa, .int (((v + 1 : Nat) : Int) - 1), .ref ro] M' Q' E' := by
    intro na2 nv2 j M' Q' E' J' h1 h2 h3 h4 h5
    rw [el]
    exact ⟨s, l, ns, na2, fa, ro, nv2, kvs, j, v, rfl, J'.P, h1, h2, h3, fa' J', wfa, h4, nrs, nrl, by omega, fun S M2 j2 a1 a2 a3 P2 e2 r2 => h5 S M2 j2 a1 a2 a3 ⟨P2, J'.X.trans e2, J'.S⟩ e2 r2⟩
  refine seq_split (fun τ M' => LS (S2 s ro) M M' s l ns ∧ M' ro = some (.lst [.int i]) ∧ τ = [some (.ref s), some (.ref na), some (.ref fa), some (.int ((v + 1 : Nat) : Int)), some (.ref ro), some (.int way), none, none, none, none, none, none, none, none]) ?_ ?_
  rotate_left
  · intro nx hnx
    have t0 : ∀ Q, Q (.int i) M2 → ixG (.ref ro) (.int 0) M2 Q := fun Q h => by rw [ixG_at (i := 0) R2 rfl]; exact h
    refine ifS_p (way < 5 ∧ 0 < i) (fun Q E q1 q2 => ?_) (fun c => ?_) fun c => hnx _ _ ⟨J2, R2, rfl⟩
    · walk_at "dl"
      by_cases c1 : way < 5
      · rw [if_pos c1]
        refine t0 _ ?_
        by_cases c2 : 0 < i <;> simp [c1, c2] at q1 q2 ⊢ <;> assumption
      · rw [if_neg c1]
        exact q2 fun z => c1 z.1
    have Or : Own (S2 s ro) M M2 s l ro (.lst [.int i]) := ⟨R2, .inr (.inr rfl), nrs, nrl⟩
    refine seq_split (fun τ M' => LS (S2 s ro) M M' s l ns ∧ M' ro = some (.lst [.int (i - 1)]) ∧ τ = [some (.ref s), some (.ref na), some (.ref fa), some (.int ((v + 1 : Nat) : Int)), some (.ref ro), some (.int way), none, none, none, none, none, none, none, none]) ?_ ?_
    rotate_left
    · intro nx hnx
      walk_at "dl"
      refine t0 _ ?_
      simp only [R2]
      exact hnx _ _ ⟨J2.set Or, put_same, rfl⟩
    rintro τ M3 ⟨J3, R3, rfl⟩
    refine seq_split (fun τ M' => LS (S2 s ro) M M' s l ns ∧ (∃ j, M' ro = some (.lst [.int j])) ∧ ∃ S : Se, S.wf okw ∧ S.ht ≤ v + 1 ∧ szD S.toD + 4 ≤ 41500 * 2 ^ v ∧ τ = [some (.ref s), some (.ref na), some (.ref fa), some (.int ((v + 1 : Nat) : Int)), some (.ref ro), some (.int way), none, none, some S.toD, none, none, none, none, none]) ?_ ?_
    rotate_left
    · intro nx hnx
      walk_at "dl"
      exact sub na nv (i - 1) _ _ _ J3 (na' J3) wna (by omega) R3 fun S M4 j w1 w2 w3 J4 _ R4 => hnx _ _ ⟨J4, ⟨j, R4⟩, S, w1, w2, w3, rfl⟩
    rintro τ M4 ⟨J4, ⟨j, R4⟩, S, w1, w2, w3, rfl⟩
    walk_at "dl"
    refine ⟨by rw [sizeLine_eq]; omega, ?_⟩
    refine J4.chooseP (vs := [.str "and", .str "if"]) rfl (by decide) (by decide) fun p x M5 hx J5 e5 => ?_
    refine sub na nv j _ _ _ J5 (na' J5) wna (by omega) (e5 _ _ nrs R4) fun S' M6 j' w1' w2' w3' J6 _ R6 => ?_
    refine ⟨by rw [sizeLine_eq]; simp, ?_⟩
    obtain ⟨h, hh, rfl⟩ : ∃ h : Str, (h = "and" ∨ h = "if") ∧ x = .str h := by
      simp at hx
      rcases hx with rfl | rfl
      · exact ⟨_, .inl rfl, rfl⟩
      · exact ⟨_, .inr rfl, rfl⟩
    exact fin (.cn h S S') M6 j' ⟨hh, w1, w1'⟩ (by simp [Se.ht]; omega) (by rw [cn_sz]; omega) J6 R6
  rintro τ M3 ⟨J3, R3, rfl⟩
  -- head
  refine seq_split (fun τ M' => LS (S2 s ro) M M' s l ns ∧ M' ro = some (.lst [.int i]) ∧ ∃ h, h ∈ bkinds ∧ τ = [some (.ref s), some (.ref na), some (.ref fa), some (.int ((v + 1 : Nat) : Int)), some (.ref ro), some (.int way), none, none, none, some (.str h), none, none, none, none]) ?_ ?_
  rotate_left
  · intro nx hnx
    walk_at "dl"
    refine ⟨by rw [sizeLine_eq]; omega, ?_⟩
    refine J3.chooseP (vs := bkinds.map D.str) rfl (by decide) (by decide) fun p x M5 hx J5 e5 => ?_
    obtain ⟨h, hh, rfl⟩ := List.mem_map.mp hx
    exact hnx _ _ ⟨J5, e5 _ _ nrs R3, h, hh, rfl⟩
  rintro τ M4 ⟨J4, R4, h, hh, rfl⟩
  -- word
  refine seq_split (fun τ M' => LS (S2 s ro) M M' s l ns ∧ M' ro = some (.lst [.int i]) ∧ ∃ x, okw x ∧ τ = [some (.ref s), some (.ref na), some (.ref fa), some (.int ((v + 1 : Nat) : Int)), some (.ref ro), some (.int way), none, none, none, some (.str h), some (.str x), none, none, none]) ?_ ?_
  rotate_left
  · intro nx hnx
    have n4 := na' J4
    walk_at "dl"
    simp only [lstDict, dictRd, n4]
    intro p hp
    have n5 := at_lay (o := .lst (nv.map fun q => ofKey q.1)) n4 hp
    simp only [lenDict, dictOf, n5]
    have l0 : 0 < nv.length := List.length_pos_iff.mpr wna.1
    refine (J4.new hp).pickAt put_same (J4.P.s_some hp).1 (by simp) (by simpa using l0) (by simp; omega) fun x M5 hx J5 e5 => ?_
    obtain ⟨q, hq, rfl, oq⟩ := key_names wna hx
    exact hnx _ _ ⟨J5, e5 _ _ nrs (at_lay R4 hp), _, oq, rfl⟩
  rintro τ M5 ⟨J5, R5, x, ox, rfl⟩
  refine seq_split (fun τ M' => LS (S2 s ro) M M' s l ns ∧ M' ro = some (.lst [.int i]) ∧ ∃ x, okw x ∧ τ = [some (.ref s), some (.ref na), some (.ref fa), some (.int ((v + 1 : Nat) : Int)), some (.ref ro), some (.int way), none, none, none, some (.str h), some (.str x), none, none, none]) ?_ ?_
  rotate_left
  · intro nx hnx
    walk_at "dl"
    refine J5.pick (by decide) (by decide) fun r M6 r0 r1 J6 e6 => ?_
    have R6 := e6 _ _ nrs R5
    simp only [eqD_int]
    by_cases c : r = 0
    · subst c
      simp
      intro p hp
      exact (J6.new hp).word (used := []) (J6.P.s_some hp).1 put_same fun y M7 oy J7 e7 => hnx _ _ ⟨J7, e7 _ _ nrs (at_lay R6 hp), y, oy, rfl⟩
    · simp [c]
      exact hnx _ _ ⟨J6, R6, x, ox, rfl⟩
  rintro τ M6 ⟨J6, R6, x, ox, rfl⟩
  -- start
  refine seq_split (fun τ M' => LS (S2 s ro) M M' s l ns ∧ M' ro = some (.lst [.int i]) ∧ τ = [some (.ref s), some (.ref na), some (.ref fa), some (.int ((v + 1 : Nat) : Int)), some (.ref ro), some (.int way), none, none, none, some (.str h), some (.str x), some (.tup [.str h, .str x]), none, none]) ?_ ?_
  rotate_left
  · intro nx hnx
    walk_at "dl"
    exact ⟨by rw [sizeLine_eq]; simp, hnx _ _ ⟨J6, R6, rfl⟩⟩
  rintro τ M7 ⟨J7, R7, rfl⟩
  refine seq_split (fun τ M' => LS (S2 s ro) M M' s l ns ∧ M' ro = some (.lst [.int i]) ∧ ∃ lim : Option Int, (lim.isSome = true ↔ h = "allbelow" ∨ h = "somebelow") ∧ τ = [some (.ref s), some (.ref na), some (.ref fa), some (.int ((v + 1 : Nat) : Int)), some (.ref ro), some (.int way), none, none, none, some (.str h), some (.str x), some (.tup (.str h :: .str x :: limD lim)), none, none]) ?_ ?_
  rotate_left
  · intro nx hnx
    walk_at "dl"
    refine ⟨by rw [sizeLine_eq]; omega, fun p hp => ?_⟩
    rw [inG_lit lits_ab]
    by_cases c : h ∈ (["allbelow", "somebelow"] : List Str)
    · rw [decide_eq_true c]
      simp only [Bool.false_bne, if_true]
      refine (J7.new hp).pick (by decide) (by decide) fun r M8 r0 r1 J8 e8 => ?_
      simp only [addD_int]
      refine ⟨by rw [sizeLine_eq]; simp, hnx _ _ ⟨J8, e8 _ _ nrs (at_lay R7 hp), some (1 + r), ?_, rfl⟩⟩
      simpa using c
    · rw [decide_eq_false c]
      simp only [Bool.false_bne, Bool.false_eq_true, if_false]
      refine hnx _ _ ⟨J7.new hp, at_lay R7 hp, none, ?_, rfl⟩
      simpa using c
  rintro τ M8 ⟨J8, R8, lim, hlim, rfl⟩
  -- inner
  refine seq_split (fun τ M' => LS (S2 s ro) M M' s l ns ∧ M' ro = some (.lst [.int i]) ∧ ∃ a nv2, M' a = some (.dk nv2) ∧ NamesOk nv2 ∧ nv2.length ≤ nv.length + 1 ∧ τ = [some (.ref s), some (.ref na), some (.ref fa), some (.int ((v + 1 : Nat) : Int)), some (.ref ro), some (.int way), none, none, none, some (.str h), some (.str x), some (.tup (.str h :: .str x :: limD lim)), some (.ref a), none]) ?_ ?_
  rotate_left
  · intro nx hnx
    walk_at "dl"
    refine ⟨by rw [sizeLine_eq]; omega, fun p hp => ?_⟩
    rw [inG_lit lits_ar]
    simp only [intG, Bool.false_bne]
    refine ⟨na, x, _, nv, rfl, at_lay (na' J8) hp, by omega, fun q hq => hnx _ _ ⟨(J8.new hp).new hq, at_lay (at_lay R8 hp) hq, q, _, put_same, names_put wna (by omega) ox ?_ ?_, putKD_length, rfl⟩⟩
    · split <;> decide
    · split <;> decide
  rintro τ M9 ⟨J9, R9, a, nv2, ha, w2, l2, rfl⟩
  walk_at "dl"
  refine sub a nv2 i _ _ _ J9 ha w2 (by omega) R9 fun S M10 j w1 w2 w3 J10 _ R10 => ?_
  have ll : (limD lim).length ≤ 1 := by cases lim <;> simp [limD]
  have lz : szL (limD lim) ≤ 1 := by cases lim <;> simp [limD, szL, szD]
  refine ⟨by rw [sizeLine_eq]; simp, ?_⟩
  simp only [addD]
  refine ⟨by rw [sizeLine_eq]; simp; omega, ?_⟩
  exact fin (.bd h x lim S) M10 j ⟨hh, ox, hlim, w1⟩ (by simp [Se.ht]; omega) (by rw [bd_sz]; omega) J10 R10
end K06

set_option maxHeartbeats 4000000
namespace K06
open PySem L2 DL
local macro_rules | `(tactic| walk_at "dl") => `(tactic| simp only [dSeq, dIfS, dB, dTru, truD, dOp, dVar, dC, dAsg, dAug, dCB, dCons, dNil, dRet, dRetN, dName, dGSub, dNext, ends, exOf, dstart, slot, oI0, oI, dAnd, dOr, dNot, dAndV, dOrV, dNotV, dNeg, dSl, dNoP, dPart, dFld, dFldS, dRaise, dLst, dTup, dFor, dIter, dRng1, dRng2, dCall, dMake, dMeth, dIxO, dLc, dYes, dGTup, dGCons, dGNil, dDrop, dBreak, dBM, dDIn, dDGet, dDGet2, dDNew, dGSubD, dDStar,
  eqD_str, neD_str, eqD_int, neD_int, ixG_t0, ixG_t1, isiG_str, isi_int, isi_int_s, isi_int_t, isi_tup, isi_tup_s, isi_tup_i, isi_str_i, isi_str_t, lenG_tup, addD_int, mulD_int, intG, List.nil_append, bne_iff_ne, ofS_inj, Bool.false_bne, Bool.true_bne,
  List.map, List.length_cons, List.length_nil, List.cons_append, List.append_nil, List.replicate, List.set, List.getElem?_cons_zero, List.getElem?_cons_succ, Option.join_some, Option.bind_some, decide_eq_true_eq])
variable {K : PySem.W.Frag} {A : Adr}
set_option maxHeartbeats 2000000 in
theorem r_law_tower : ∀ ds M Q E, sp_law_tower ds M Q E → t_law_tower K A (ends Q E) (dstart N_law_tower ds) M := by
  rintro ds M Q E ⟨s, l, ns, na, fa, nv, kvs, rfl, P, hna, wna, hfa, wfa, k⟩
  have nas := pst_ne P hna
  have nfs := pst_ne P hfa
  have J := LS.zero (S := Is s) P rfl
  have na' : ∀ {M'}, LS (Is s) M M' s l ns → M' na = some (.dk nv) := fun J' => J'.X _ _ nas hna
  have fa' : ∀ {M'}, LS (Is s) M M' s l ns → M' fa = some (.dk kvs) := fun J' => J'.X _ _ nfs hfa
  unfold t_law_tower N_law_tower
  simp only [dstart, List.map, List.length_cons, List.length_nil, List.replicate, List.cons_append, List.nil_append]
  refine seq_split (fun τ M' => LS (Is s) M M' s l ns ∧ ∃ p xs, Own (Is s) M M' s l p (.lst (xs.map D.str)) ∧ WordsOk xs ∧ τ = [some (.ref s), some (.ref na), some (.ref fa), some (.ref p), none, none, none, none, none, none, none]) ?_ ?_
  rotate_left
  · intro nx hnx
    exact comp_nums rfl (by simp) (by decide) hna wna fun p xs hp w => hnx _ _ ⟨J.new hp, p, xs, .new J hp, w, rfl⟩
  rintro τ M2 ⟨J2, p, xs, O2, wp, rfl⟩
  refine seq_split (fun τ M' => LS (Is s) M M' s l ns ∧ Own (Is s) M M' s l p (.lst (xs.map D.str)) ∧ ∃ q ys, Own (Is s) M M' s l q (.lst (ys.map rowD)) ∧ RowsOk ys ∧ τ = [some (.ref s), some (.ref na), some (.ref fa), some (.ref p), some (.ref q), none, none, none, none, none, none]) ?_ ?_
  rotate_left
  · intro nx hnx
    exact comp_rows rfl (by simp) (by decide) (na' J2) wna fun q ys hq w => hnx _ _ ⟨J2.new hq, O2.lay hq, q, ys, .new J2 hq, w, rfl⟩
  rintro τ M3 ⟨J3, O3, q, ys, O3', wq, rfl⟩
  refine seq_split (fun τ M' => LS (Is s) M M' s l ns ∧ Own (Is s) M M' s l p (.lst (xs.map D.str)) ∧ Own (Is s) M M' s l q (.lst (ys.map rowD)) ∧ ∃ a : Ex, a.wf okw ∧ dep a.toD ≤ 3 ∧ τ = [some (.ref s), some (.ref na), some (.ref fa), some (.ref p), some (.ref q), some a.toD, none, none, none, none, none]) ?_ ?_
  rotate_left
  · intro nx hnx
    walk_at "dl"
    exact J3.expr O3.ns O3'.ns nfs O3.a wp O3'.a wq (fa' J3) wfa (by decide) (by decide) (by decide) fun a M5 wa da J5 e5 => hnx _ _ ⟨J5, O3.ext e5, O3'.ext e5, a, wa, da, rfl⟩
  rintro τ M4 ⟨J4, O4, O4', a, wa, da, rfl⟩
  have za := Ex.sz3 wa da
  refine seq_split (fun τ M' => LS (Is s) M M' s l ns ∧ ∃ S : Se, S.wf okw ∧ S.ht ≤ 1 ∧ szD S.toD ≤ 41474 ∧ τ = [some (.ref s), some (.ref na), some (.ref fa), some (.ref p), some (.ref q), some a.toD, some S.toD, none, none, none, none]) ?_ ?_
  rotate_left
  · intro nx hnx
    walk_at "dl"
    refine J4.expr O4.ns O4'.ns nfs O4.a wp O4'.a wq (fa' J4) wfa (by decide) (by decide) (by decide) fun b M5 wb db J5 e5 => ?_
    have zb := Ex.sz3 wb db
    exact ⟨by rw [sizeLine_eq]; simp, hnx _ _ ⟨J5, .is a b, ⟨wa, wb, da, db⟩, by simp [Se.ht], by rw [is_sz]; omega, rfl⟩⟩
  rintro τ M5 ⟨J5, S, ws, hh, hz, rfl⟩
  refine seq_split (fun τ M' => LS (Is s) M M' s l ns ∧ ∃ (f : Addr) (zs : List Str), Own (Is s) M M' s l f (.lst (zs.map D.str)) ∧ τ = [some (.ref s), some (.ref na), some (.ref fa), some (.ref p), some (.ref q), some a.toD, some S.toD, some (.ref f), none, none, none]) ?_ ?_
  rotate_left
  · intro nx hnx
    walk_at "dl"
    exact ⟨S, rfl, ws, by omega, by unfold B; omega, fun zs _ _ f hf => hnx _ _ ⟨J5.new hf, f, zs, .new J5 hf, rfl⟩⟩
  rintro τ M6 ⟨J6, f, zs, O6, rfl⟩
  have l0 : 0 < nv.length := List.length_pos_iff.mpr wna.1
  refine seq_split (fun τ M' => LS (Is s) M M' s l ns ∧ ∃ (S : Se) (o o' : Option D), S.wf okw ∧ S.ht ≤ 30 ∧ szD S.toD ≤ 50000 ∧ τ = [some (.ref s), some (.ref na), some (.ref fa), some (.ref p), some (.ref q), some a.toD, some S.toD, some (.ref f), o, o', none]) ?_ ?_
  rotate_left
  · intro nx hnx
    walk_at "dl"
    refine J6.pick (by decide) (by decide) fun r M7 r0 r1 J7 e7 => ⟨by omega, by omega, ?_⟩
    refine dLoop_inv (fun i τ M' => LS (Is s) M M' s l ns ∧ Own (Is s) M M' s l f (.lst (zs.map D.str)) ∧ ∃ (S : Se) (o o' : Option D), S.wf okw ∧ S.ht ≤ 1 + i ∧ szD S.toD ≤ 41474 + 4 * i ∧ τ = [some (.ref s), some (.ref na), some (.ref fa), some (.ref p), some (.ref q), some a.toD, some S.toD, some (.ref f), o, o', none]) (fun _ _ _ _ _ => trivial) ?_ ?_ ⟨J7, O6.ext e7, S, _, _, ws, by omega, by omega, rfl⟩
    · rintro i d τ M8 nxt hd ⟨J8, O8, S, o, o', ws, hh, hz, rfl⟩ hnx'
      obtain ⟨hi, rfl⟩ := rng_at hd
      refine seq_split (fun τ M' => LS (Is s) M M' s l ns ∧ Own (Is s) M M' s l f (.lst (zs.map D.str)) ∧ ∃ (x : Str) (v : Int), okw x ∧ valD nv (.inr x) = some (.int v) ∧ τ = [some (.ref s), some (.ref na), some (.ref fa), some (.ref p), some (.ref q), some a.toD, some S.toD, some (.ref f), some (.int i), some (.str x), none]) ?_ ?_
      rotate_left
      · intro nx hnx
        have n8 := na' J8
        walk_at "dl"
        simp only [lstDict, dictRd, n8]
        intro p' hp'
        have n9 := at_lay (o := .lst (nv.map fun q => ofKey q.1)) n8 hp'
        simp only [lenDict, dictOf, n9]
        refine (J8.new hp').pickAt put_same (J8.P.s_some hp').1 (by simp) (by simpa using l0) (by have := wna.2.1; simp; omega) fun x M9 hx J9 e9 => ?_
        obtain ⟨y, hy, rfl, oy⟩ := key_names wna hx
        have := names_at wna hy
        exact hnx _ _ ⟨J9, (O8.lay hp').ext e9, _, _, oy, by rw [← this.2.1]; exact this.2.2.1, rfl⟩
      rintro τ M9 ⟨J9, O9, x, v, ox, hv, rfl⟩
      have n9 := na' J9
      have go : ∀ (h : Str) (lim : Option Int) (M' : Mp), h ∈ bkinds → (lim.isSome = true ↔ h = "allbelow" ∨ h = "somebelow") → LS (Is s) M M' s l ns → Own (Is s) M M' s l f (.lst (zs.map D.str)) → nxt [some (.ref s), some (.ref na), some (.ref fa), some (.ref p), some (.ref q), some a.toD, some (Se.bd h x lim S).toD, some (.ref f), some (.int i), some (.str x), none] M' := by
        intro h lim M' h1 h2 h3 h4
        have lz : szL (limD lim) ≤ 1 := by cases lim <;> simp [limD, szL, szD]
        exact hnx' _ _ ⟨h3, h4, .bd h x lim S, _, _, ⟨h1, ox, h2, ws⟩, by simp [Se.ht]; omega, by rw [bd_sz]; omega, rfl⟩
      have stay : nxt [some (.ref s), some (.ref na), some (.ref fa), some (.ref p), some (.ref q), some a.toD, some S.toD, some (.ref f), some (.int i), some (.str x), none] M9 := hnx' _ _ ⟨J9, O9, S, _, _, ws, by omega, by omega, rfl⟩
      refine ifS_p (v = 0) (fun Q E q1 q2 => ?_) (fun c => ?_) fun c => ?_
      · walk_at "dl"
        simp only [dictRd, n9, keyD, hv, eqD_int]
        by_cases c : v = 0
        · simp [c] at q1 ⊢; exact q1
        · simp [c] at q2 ⊢; exact q2
      · walk_at "dl"
        refine ⟨by rw [sizeLine_eq]; simp, by rw [sizeLine_eq]; simp, by rw [sizeLine_eq]; simp, by rw [sizeLine_eq]; simp, ?_⟩
        refine J9.chooseP (vs := [.tup [.str "all", .str x, S.toD], .tup [.str "some", .str x, S.toD], .tup [.str "allbelow", .str x, .int 12, S.toD]]) rfl (by simp) (by simp) fun p' y M10 hy J10 e10 => ?_
        have e11 : Ext (Is s) M9 M10 := e10
        simp only [List.mem_cons, List.not_mem_nil, or_false] at hy
        rcases hy with rfl | rfl | rfl
        · exact go "all" none M10 (by decide) (by decide) J10 (O9.ext e11)
        · exact go "some" none M10 (by decide) (by decide) J10 (O9.ext e11)
        · exact go "allbelow" (some 12) M10 (by decide) (by decide) J10 (O9.ext e11)
      · refine ifS_p (v = 1 ∨ x ∉ zs) (fun Q E q1 q2 => ?_) (fun c => ?_) fun c => stay
        · walk_at "dl"
          simp only [dictRd, n9, keyD, hv, eqD_int]
          by_cases c1 : v = 1
          · simp [c1] at q1 ⊢; exact q1
          · simp [c1] at q1 q2 ⊢
            rw [inG_strs O9.a]
            by_cases c2 : x ∈ zs
            · simp [c2] at q2 ⊢; exact q2
            · simp [c2] at q1 ⊢; exact q1
        · walk_at "dl"
          refine ⟨by rw [sizeLine_eq]; omega, ?_⟩
          refine J9.chooseP (vs := [.str "allrow", .str "somerow"]) rfl (by decide) (by decide) fun p' y M10 hy J10 e10 => ⟨by rw [sizeLine_eq]; simp, ?_⟩
          simp only [List.mem_cons, List.not_mem_nil, or_false] at hy
          rcases hy with rfl | rfl
          · exact go "allrow" none M10 (by decide) (by decide) J10 (O9.ext e10)
          · exact go "somerow" none M10 (by decide) (by decide) J10 (O9.ext e10)
    · rintro τ M8 ⟨J8, O8, S, o, o', ws, hh, hz, rfl⟩
      rw [len_rng] at hh hz
      exact hnx _ _ ⟨J8, S, o, o', ws, by omega, by omega, rfl⟩
  rintro τ M7 ⟨J7, S, o, o', ws, hh, hz, rfl⟩
  walk_at "dl"
  exact dropQ_of (k S ⟨ws, hh, by unfold B; omega⟩ M7 J7.P J7.X) .refl
end K06

set_option maxHeartbeats 4000000
namespace K06
open PySem L2 DL
local macro_rules | `(tactic| walk_at "dl") => `(tactic| simp only [dSeq, dIfS, dB, dTru, truD, dOp, dVar, dC, dAsg, dAug, dCB, dCons, dNil, dRet, dRetN, dName, dGSub, dNext, ends, exOf, dstart, slot, oI0, oI, dAnd, dOr, dNot, dAndV, dOrV, dNotV, dNeg, dSl, dNoP, dPart, dFld, dFldS, dRaise, dLst, dTup, dFor, dIter, dRng1, dRng2, dCall, dMake, dMeth, dIxO, dLc, dYes, dGTup, dGCons, dGNil, dDrop, dBreak, dBM, dDIn, dDGet, dDGet2, dDNew, dGSubD, dDStar,
  eqD_str, neD_str, eqD_int, neD_int, ixG_t0, ixG_t1, isiG_str, isi_int, isi_int_s, isi_int_t, isi_tup, isi_tup_s, isi_tup_i, isi_str_i, isi_str_t, lenG_tup, addD_int, mulD_int, intG, List.nil_append, bne_iff_ne, ofS_inj, Bool.false_bne, Bool.true_bne,
  List.map, List.length_cons, List.length_nil, List.cons_append, List.append_nil, List.replicate, List.set, List.getElem?_cons_zero, List.getElem?_cons_succ, Option.join_some, Option.bind_some, decide_eq_true_eq])
variable {K : PySem.W.Frag} {A : Adr}
theorem EnvS.ne {M : Mp} {s l a : Addr} {ns : List Int} {k : Nat} {env : Env} (P : PSt M s l ns) (h : EnvS M a k env) : a ≠ s := by
  obtain ⟨kvs, h1, _⟩ := h
  exact pst_ne P h1
theorem EnvS.ls {S : Addr → Prop} {M0 M : Mp} {a : Addr} {k : Nat} {env : Env} (n : ¬ S a) (e : Ext S M0 M) (h : EnvS M0 a k env) : EnvS M a k env := by
  obtain ⟨kvs, h1, h2⟩ := h
  exact ⟨kvs, e _ _ n h1, h2⟩
set_option maxHeartbeats 2000000 in
theorem r_law_renamed {n : Nat} : ∀ ds M Q E, sp_law_renamed (n + 1) ds M Q E → t_law_renamed K A n (ends Q E) (dstart N_law_renamed ds) M := by
  rintro ds M Q E ⟨s, l, ns, S, a, w, k0, env, words, rfl, P, ws, hd, hz, he, hk, henv, nw, hw, ww, w0, k⟩
  have nas := he.ne P
  have J := LS.zero (S := Is s) P rfl
  unfold B at hz
  have fin : ∀ (S' : Se) M', S'.wf okw → S'.ht = S.ht → szD S'.toD = szD S.toD → LS (Is s) M M' s l ns → dropQ Q S'.toD M' := fun S' M' h1 h2 h3 J' => dropQ_of (k S' h1 h2 h3 M' J'.P J'.X) .refl
  have he' : ∀ {M'}, LS (Is s) M M' s l ns → EnvS M' a k0 env := fun J' => he.ls nas J'.X
  have hw' : ∀ {M'}, LS (Is s) M M' s l ns → M' w = some (.lst (words.map D.str)) := fun J' => J'.X _ _ nw hw
  unfold t_law_renamed N_law_renamed
  cases S with
  | is x y =>
    simp only [Se.wf] at ws
    simp only [Se.toD] at k ⊢
    walk_at "dl"
    simp [sizeLine_eq]
    refine ⟨x, a, k0, env, rfl, ws.1, by omega, he, ?_⟩
    simp only [ixG_t2]
    refine ⟨y, a, k0, env, rfl, ws.2.1, by omega, he, ?_⟩
    exact fin (.is (x.fill env) (y.fill env)) M ⟨Ex.fill_wf henv (fun _ h => h) x ws.1, Ex.fill_wf henv (fun _ h => h) y ws.2.1, by rw [Ex.fill_dep]; exact ws.2.2.1, by rw [Ex.fill_dep]; exact ws.2.2.2⟩ rfl (by rw [is_sz, is_sz, Ex.fill_sz, Ex.fill_sz]) J
  | cn h x y =>
    have hc := cn_ne ws.1
    rw [cn_sz] at hz fin
    simp only [Se.wf, Se.ht] at ws hd hk fin
    simp only [Se.toD] at k ⊢
    walk_at "dl"
    simp [hc, sizeLine_eq]
    intro p hp
    rw [inG_lit lits_ai]
    have : decide (h ∈ (["and", "if"] : List Str)) = true := by rcases ws.1 with rfl | rfl <;> decide
    rw [this]
    simp
    have J1 := J.new (o := .lst [.str "and", .str "if"]) hp
    refine ⟨s, l, ns, x, a, w, k0, env, words, rfl, J1.P, ws.2.1, by omega, by unfold B; omega, he' J1, by omega, henv, nw, hw' J1, ww, w0, fun x' wx hx zx => drawn_ls J1 fun M2 J2 e2 => ?_⟩
    simp only [ixG_t2]
    refine ⟨s, l, ns, y, a, w, k0, env, words, rfl, J2.P, ws.2.2, by omega, by unfold B; omega, he' J2, by omega, henv, nw, hw' J2, ww, w0, fun y' wy hy zy => drawn_ls J2 fun M3 J3 e3 => ?_⟩
    exact fin (.cn h x' y') M3 ⟨ws.1, wx, wy⟩ (by simp [Se.ht, hx, hy]) (by rw [cn_sz, zx, zy]) J3
  | bd h x lim S =>
    have hb := bk_ne ws.1
    rw [bd_sz] at hz fin
    simp only [Se.wf, Se.ht] at ws hd hk fin
    simp only [Se.toD]
    simp only [dstart, List.map, List.length_cons, List.length_nil, List.replicate, List.cons_append, List.nil_append]
    refine seq_split (fun τ M' => M = M' ∧ τ = [some (.ref s), some (.tup (.str h :: .str x :: (limD lim ++ [S.toD]))), some (.ref a), some (.ref w), none, none, none]) ?_ ?_
    rotate_left
    · intro nx hnx
      walk_at "dl"
      simp [hb.1]
      exact hnx _ _ ⟨rfl, rfl⟩
    rintro τ M1 ⟨rfl, rfl⟩
    refine seq_split (fun τ M' => LS (Is s) M M' s l ns ∧ τ = [some (.ref s), some (.tup (.str h :: .str x :: (limD lim ++ [S.toD]))), some (.ref a), some (.ref w), none, none, none]) ?_ ?_
    rotate_left
    · intro nx hnx
      walk_at "dl"
      simp [sizeLine_eq]
      intro p0 hp0
      rw [inG_lit lits_ai]
      have : decide (h ∈ (["and", "if"] : List Str)) = false := by simpa using ⟨hb.2.1, hb.2.2⟩
      rw [this]
      simp
      exact hnx _ _ ⟨J.new hp0, rfl⟩
    rintro τ M1 ⟨J1, rfl⟩
    -- barred
    refine seq_split (fun τ M' => LS (Is s) M M' s l ns ∧ ∃ (p : Addr) (bs : List Str), Own (Is s) M M' s l p (.lst (bs.map D.str)) ∧ τ = [some (.ref s), some (.tup (.str h :: .str x :: (limD lim ++ [S.toD]))), some (.ref a), some (.ref w), none, some (.ref p), none]) ?_ ?_
    rotate_left
    · intro nx hnx
      walk_at "dl"
      rw [ixG_last2]
      refine ⟨S, rfl, ws.2.2.2, by omega, by unfold B; omega, fun fs ofs lfs q hq => ?_⟩
      simp only [itemsOf, seqOf, put_same, keepOf]
      intro p hp
      have npq : q ≠ p := by rintro rfl; rw [put_same] at hp; cases hp
      refine dCL_pure D.str (fs.map fun y => if y ≠ x then some (env y) else none) (by simp) (by simp; omega) (fun xs => by simp [put_ne npq, put_same]) (fun i d o xs k1 k2 hd' ho h1 h2 => ?_) ?_
      · have hi := (List.getElem?_eq_some_iff.mp hd').1
        rw [List.length_map] at hi
        rw [List.getElem?_map, List.getElem?_eq_getElem hi] at hd' ho
        have ed : d = .str fs[i] := by simpa using hd'.symm
        subst ed
        have eo : o = if fs[i] ≠ x then some (env fs[i]) else none := by simpa using ho.symm
        obtain ⟨kvs, g1, g2, g3⟩ := he' ((J1.new hq (o := .lst (fs.map D.str))).new hp (o := .lst xs))
        simp only [wipeD]
        walk_at "dl"
        by_cases c : fs[i] = x
        · simp only [c, decide_true, Bool.not_true, Bool.false_eq_true, if_false]
          exact h2 (by rw [eo]; simp [c])
        · simp only [c, decide_false, Bool.not_false, if_true, dictRd, g1, keyD, g3, Option.isSome_some, true_and]
          exact h1 _ (by rw [eo]; simp [c])
      · exact hnx _ _ ⟨(J1.new hq).new hp, p, _, .new (J1.new hq) hp, rfl⟩
    rintro τ M2 ⟨J2, p, bs, O2, rfl⟩
    -- word
    have l0 : 0 < words.length := List.length_pos_iff.mpr w0
    refine seq_split (fun τ M' => LS (Is s) M M' s l ns ∧ Own (Is s) M M' s l p (.lst (bs.map D.str)) ∧ ∃ y, okw y ∧ τ = [some (.ref s), some (.tup (.str h :: .str x :: (limD lim ++ [S.toD]))), some (.ref a), some (.ref w), none, some (.ref p), some (.str y)]) ?_ ?_
    rotate_left
    · intro nx hnx
      walk_at "dl"
      rw [lenG_at (hw' J2)]
      refine J2.pickAt (hw' J2) nw rfl (by simpa using l0) (by have := ww.1; simp; omega) fun v M3 hv J3 e3 => ?_
      obtain ⟨y, hy, rfl⟩ := List.mem_map.mp hv
      exact hnx _ _ ⟨J3, O2.ext e3, y, ww.2 y hy, rfl⟩
    rintro τ M3 ⟨J3, O3, y, oy, rfl⟩
    refine seq_split (fun τ M' => LS (Is s) M M' s l ns ∧ ∃ y, okw y ∧ τ = [some (.ref s), some (.tup (.str h :: .str x :: (limD lim ++ [S.toD]))), some (.ref a), some (.ref w), none, some (.ref p), some (.str y)]) ?_ ?_
    rotate_left
    · intro nx hnx
      walk_at "dl"
      rw [inG_strs O3.a]
      have new : ∀ M4, LS (Is s) M M4 s l ns → Own (Is s) M M4 s l p (.lst (bs.map D.str)) → ∀ E', sp_law_new [.ref s, .ref p] M4 (fun d M1 => nx [some (.ref s), some (.tup (.str h :: .str x :: (limD lim ++ [S.toD]))), some (.ref a), some (.ref w), none, some (.ref p), some d] M1) E' := fun M4 J4 O4 E' =>
        J4.word O4.ns O4.a fun z M5 oz J5 _ => hnx _ _ ⟨J5, z, oz, rfl⟩
      by_cases c : y ∈ bs
      · simp [c]
        exact new M3 J3 O3 _
      · simp [c]
        refine J3.pick (by decide) (by decide) fun r M4 r0 r1 J4 e4 => ?_
        simp only [eqD_int]
        by_cases c2 : r = 0
        · subst c2
          simp
          exact new M4 J4 (O3.ext e4) _
        · simp [c2]
          exact hnx _ _ ⟨J4, y, oy, rfl⟩
    rintro τ M4 ⟨J4, z, oz, rfl⟩
    walk_at "dl"
    refine ⟨by rw [sizeLine_eq]; simp, ?_⟩
    simp only [slG]
    rw [cut_2m]
    have hl : (limD lim).length ≤ 1 := by cases lim <;> simp [limD]
    simp only [addD]
    refine ⟨by simp [sizeLine_eq]; omega, ?_⟩
    rw [ixG_last2]
    obtain ⟨kvs, g1, g2, g3⟩ := he' J4
    refine ⟨a, x, _, kvs, rfl, g1, by omega, fun q hq => ?_⟩
    have J5 := J4.new (o := .dk (putKD kvs (.inr x) (.str z))) hq
    refine ⟨s, l, ns, S, q, w, k0 + 1, env.set x z, words, rfl, J5.P, ws.2.2.2, by omega, by unfold B; omega, EnvS.put g2 g3 put_same, by omega, fun v ov => ?_, nw, hw' J5, ww, w0, fun S' w1 w2 w3 => drawn_ls J5 fun M6 J6 e6 => ?_⟩
    · unfold Env.set
      split
      · exact oz
      · exact henv v ov
    · refine ⟨by rw [sizeLine_eq]; simp, by simp [sizeLine_eq]; omega, ?_⟩
      have := fin (.bd h z lim S') M6 ⟨ws.1, oz, ws.2.2.1, w1⟩ (by simp [Se.ht, w2]) (by rw [bd_sz, w3]) J6
      simpa [Se.toD] using this
end K06

set_option maxHeartbeats 4000000
namespace K06
open PySem L2 DL
local macro_rules | `(tactic| walk_at "dl") => `(tactic| simp only [dSeq, dIfS, dB, dTru, truD, dOp, dVar, dC, dAsg, dAug, dCB, dCons, dNil, dRet, dRetN, dName, dGSub, dNext, ends, exOf, dstart, slot, oI0, oI, dAnd, dOr, dNot, dAndV, dOrV, dNotV, dNeg, dSl, dNoP, dPart, dFld, dFldS, dRaise, dLst, dTup, dFor, dIter, dRng1, dRng2, dCall, dMake, dMeth, dIxO, dLc, dYes, dGTup, dGCons, dGNil, dDrop, dBreak, dBM, dDIn, dDGet, dDGet2, dDNew, dGSubD, dDStar,
  eqD_str, neD_str, eqD_int, neD_int, ixG_t0, ixG_t1, isiG_str, isi_int, isi_int_s, isi_int_t, isi_tup, isi_tup_s, isi_tup_i, isi_str_i, isi_str_t, lenG_tup, addD_int, mulD_int, intG, List.nil_append, bne_iff_ne, ofS_inj, Bool.false_bne, Bool.true_bne,
  List.map, List.length_cons, List.length_nil, List.cons_append, List.append_nil, List.replicate, List.set, List.getElem?_cons_zero, List.getElem?_cons_succ, Option.join_some, Option.bind_some, decide_eq_true_eq])
variable {K : PySem.W.Frag} {A : Adr}
theorem ixG_Tlast {q : List Int} {i : Int} {M : Mp} {Q : DK} : ixG (T (q ++ [i])) (.int (-1)) M Q = Q (.int i) M := by
  unfold T
  rw [List.map_append]
  exact ixG_last
theorem groups_len {g : List Str} (h : g ∈ groups) : 0 < g.length ∧ g.length < 100 := by
  simp only [groups, List.mem_cons, List.not_mem_nil, or_false] at h
  rcases h with rfl | rfl | rfl | rfl <;> decide
set_option maxHeartbeats 2000000 in
theorem r_law_other_leaf : ∀ ds M Q E, sp_law_other_leaf ds M Q E → t_law_other_leaf K A (ends Q E) (dstart N_law_other_leaf ds) M := by
  rintro ds M Q E ⟨s, l, ns, v, q, i, w, words, rfl, P, hv, nw, hw, ww, k⟩
  have J := LS.zero (S := Is s) P rfl
  have fin : ∀ (v' : D) M', okCh i v v' → LS (Is s) M M' s l ns → dropQ Q v' M' := fun v' M' h J' => dropQ_of (k v' h M' J'.P J'.X) .refl
  unfold t_law_other_leaf N_law_other_leaf
  rcases hv with ⟨j, rfl⟩ | ⟨h, rfl⟩
  · walk_at "dl"
    simp [mmG]
    refine J.number fun r M1 J1 e1 => ?_
    refine J1.pick (by decide) (by decide) fun r2 M2 _ _ J2 e2 => ?_
    simp only [addD_int]
    refine ⟨by rw [sizeLine_eq]; omega, ?_⟩
    refine J2.chooseP rfl (by simp) (by simp) fun p x M3 hx J3 e3 => fin x M3 ?_ J3
    simp only [List.mem_cons, List.not_mem_nil, or_false] at hx
    rcases hx with rfl | rfl | rfl | rfl <;> exact ⟨_, rfl⟩
  simp only [dstart, List.map, List.length_cons, List.length_nil, List.replicate, List.cons_append, List.nil_append]
  refine seq_split (fun τ M' => M = M' ∧ τ = [some (.ref s), some (.str h), some (T (q ++ [i])), some (.ref w), none, none]) ?_ ?_
  rotate_left
  · intro nx hnx
    walk_at "dl"
    simp
    exact hnx _ _ ⟨rfl, rfl⟩
  rintro τ M1 ⟨rfl, rfl⟩
  refine seq_split (fun τ M' => i ≤ 0 ∧ M = M' ∧ τ = [some (.ref s), some (.str h), some (T (q ++ [i])), some (.ref w), none, none]) ?_ ?_
  rotate_left
  · intro nx hnx
    walk_at "dl"
    rw [ixG_Tlast]
    simp only [decide_eq_true_eq]
    by_cases c : 0 < i
    rotate_left
    · rw [if_neg c]
      exact hnx _ _ ⟨by omega, rfl, rfl⟩
    rw [if_pos c]
    refine ⟨Nat.zero_le _, fun p hp => ?_⟩
    refine (J.new hp).word (used := []) (P.s_some hp).1 put_same fun y M2 oy J2 e2 => ?_
    refine ⟨by rw [sizeLine_eq]; omega, fun p2 hp2 => ?_⟩
    have hw2 : put M2 p2 (.lst [.str y]) w = some (.lst (words.map D.str)) := at_lay (J2.X _ _ nw hw) hp2
    simp only [addD, hw2, put_same]
    refine ⟨by have := ww.1; simp [sizeLine_eq]; omega, fun p3 hp3 => ?_⟩
    have J3 := (J2.new (o := .lst [.str y]) hp2).new (o := .lst (words.map D.str ++ [.str y])) hp3
    have hw3 := at_lay (o := .lst (words.map D.str ++ [.str y])) hw2 hp3
    rw [lenG_at hw3]
    simp only [addD_int]
    refine J3.pickAt put_same (J2.new (o := .lst [.str y]) hp2 |>.P.s_some hp3).1 (by simp) (by simp) (by have := ww.1; simp; omega) fun x M4 hx J4 e4 => ?_
    have : x ∈ (words ++ [y]).map D.str := by simpa using hx
    obtain ⟨z, hz, rfl⟩ := List.mem_map.mp this
    refine fin _ M4 (.inl ⟨c, z, rfl, ?_⟩) J4
    rcases List.mem_append.mp hz with hz | hz
    · exact ww.2 z hz
    · rw [List.mem_singleton.mp hz]; exact oy
  rintro τ M1 ⟨i0, rfl, rfl⟩
  have kp : ∀ h' M', kin h h' → LS (Is s) M M' s l ns → dropQ Q (.str h') M' := fun h' M' hk J' => fin _ M' (.inr ⟨i0, h', rfl, hk⟩) J'
  refine seq_split (fun τ M' => LS (Is s) M M' s l ns ∧ ∃ p1 p2 p3, M' p1 = some (.lst ((groups.getD 0 []).map D.str)) ∧ M' p2 = some (.lst ((groups.getD 1 []).map D.str)) ∧ p1 ≠ s ∧ p2 ≠ s ∧ M' p3 = some (.lst [.ref p1, .ref p2]) ∧ τ = [some (.ref s), some (.str h), some (T (q ++ [i])), some (.ref w), some (.ref p3), none]) ?_ ?_
  rotate_left
  · intro nx hnx
    walk_at "dl"
    refine ⟨by rw [sizeLine_eq]; omega, fun p1 h1 => ⟨by rw [sizeLine_eq]; omega, fun p2 h2 => ⟨by rw [sizeLine_eq]; omega, fun p3 h3 => ?_⟩⟩⟩
    have J1 := J.new (o := .lst ((groups.getD 0 []).map D.str)) h1
    have J2 := J1.new (o := .lst ((groups.getD 1 []).map D.str)) h2
    exact hnx _ _ ⟨J2.new h3, p1, p2, p3, at_lay (at_lay put_same h2) h3, at_lay put_same h3, (P.s_some h1).1, (J1.P.s_some h2).1, put_same, rfl⟩
  rintro τ M1 ⟨J1, p1, p2, p3, a1, a2, n1, n2, a3, rfl⟩
  refine seq_split (fun τ M' => LS (Is s) M M' s l ns ∧ ∃ p4 p5 p6, M' p1 = some (.lst ((groups.getD 0 []).map D.str)) ∧ M' p2 = some (.lst ((groups.getD 1 []).map D.str)) ∧ M' p4 = some (.lst ((groups.getD 2 []).map D.str)) ∧ M' p5 = some (.lst ((groups.getD 3 []).map D.str)) ∧ p4 ≠ s ∧ p5 ≠ s ∧ M' p6 = some (.lst [.ref p1, .ref p2, .ref p4, .ref p5]) ∧ τ = [some (.ref s), some (.str h), some (T (q ++ [i])), some (.ref w), some (.ref p6), none]) ?_ ?_
  rotate_left
  · intro nx hnx
    walk_at "dl"
    refine ⟨by rw [sizeLine_eq]; omega, fun p4 h4 => ⟨by rw [sizeLine_eq]; omega, fun p5 h5 => ⟨by rw [sizeLine_eq]; omega, fun p7 h7 => ?_⟩⟩⟩
    have J2 := J1.new (o := .lst ((groups.getD 2 []).map D.str)) h4
    have J3 := J2.new (o := .lst ((groups.getD 3 []).map D.str)) h5
    have a3' := at_lay (o := .lst [.ref p4, .ref p5]) (at_lay (o := .lst ((groups.getD 3 []).map D.str)) (at_lay (o := .lst ((groups.getD 2 []).map D.str)) a3 h4) h5) h7
    simp only [addD]
    refine (?_ : (match put (put (put M1 p4 (.lst ((groups.getD 2 []).map D.str))) p5 (.lst ((groups.getD 3 []).map D.str))) p7 (.lst [.ref p4, .ref p5]) p3, put (put (put M1 p4 (.lst ((groups.getD 2 []).map D.str))) p5 (.lst ((groups.getD 3 []).map D.str))) p7 (.lst [.ref p4, .ref p5]) p7 with
      | some (.lst xs), some (.lst ys) => xs.length + ys.length ≤ sizeLine ∧ ∀ p, put (put (put M1 p4 (.lst ((groups.getD 2 []).map D.str))) p5 (.lst ((groups.getD 3 []).map D.str))) p7 (.lst [.ref p4, .ref p5]) p = none → nx [some (.ref s), some (.str h), some (T (q ++ [i])), some (.ref w), some (.ref p), none] (put (put (put (put M1 p4 (.lst ((groups.getD 2 []).map D.str))) p5 (.lst ((groups.getD 3 []).map D.str))) p7 (.lst [.ref p4, .ref p5])) p (.lst (xs ++ ys)))
      | _, _ => False))
    rw [a3', put_same]
    refine ⟨by rw [sizeLine_eq]; simp, fun p6 h6 => ?_⟩
    exact hnx _ _ ⟨(J3.new h7).new h6, p4, p5, p6, at_lay (at_lay (at_lay (at_lay a1 h4) h5) h7) h6, at_lay (at_lay (at_lay (at_lay a2 h4) h5) h7) h6, at_lay (at_lay (at_lay put_same h5) h7) h6, at_lay (at_lay put_same h7) h6, (J1.P.s_some h4).1, (J2.P.s_some h5).1, put_same, rfl⟩
  rintro τ M2 ⟨J2, p4, p5, p6, a1, a2, a4, a5, n4, n5, a6, rfl⟩
  refine seq_split (fun τ M' => M2 = M' ∧ ∃ o, τ = [some (.ref s), some (.str h), some (T (q ++ [i])), some (.ref w), some (.ref p6), o]) ?_ ?_
  rotate_left
  · intro nx hnx
    walk_at "dl"
    simp only [itemsOf, keepOf, seqOf, a6]
    refine dLoop_inv (fun j τ M' => M2 = M' ∧ ∃ o, τ = [some (.ref s), some (.str h), some (T (q ++ [i])), some (.ref w), some (.ref p6), o]) (fun j τ M' _ e => by rw [← e.1, a6]) ?_ ?_ ⟨rfl, _, rfl⟩
    · rintro j d τ M' nxt hd ⟨rfl, o, rfl⟩ hnx'
      have hg : ∃ g pg, g ∈ groups ∧ d = .ref pg ∧ M2 pg = some (.lst (g.map D.str)) ∧ pg ≠ s := by
        have := List.mem_of_getElem? hd
        simp only [List.mem_cons, List.not_mem_nil, or_false] at this
        rcases this with rfl | rfl | rfl | rfl
        · exact ⟨_, _, by decide, rfl, a1, n1⟩
        · exact ⟨_, _, by decide, rfl, a2, n2⟩
        · exact ⟨_, _, by decide, rfl, a4, n4⟩
        · exact ⟨_, _, by decide, rfl, a5, n5⟩
      obtain ⟨g, pg, gg, rfl, hpg, npg⟩ := hg
      have gl := groups_len gg
      walk_at "dl"
      rw [inG_strs hpg]
      by_cases c : h ∈ g
      · simp only [c, decide_true, Bool.false_bne, if_true]
        rw [lenG_at hpg]
        refine J2.pickAt hpg npg rfl (by simpa using gl.1) (by simp; omega) fun x M3 hx J3 e3 => ?_
        obtain ⟨h', hh', rfl⟩ := List.mem_map.mp hx
        exact kp h' M3 (.inr ⟨g, gg, c, hh'⟩) J3
      · simp only [c, decide_false, Bool.false_bne, Bool.false_eq_true, if_false]
        exact hnx' _ _ ⟨rfl, _, rfl⟩
    · rintro τ M' ⟨rfl, o, rfl⟩
      exact hnx _ _ ⟨rfl, o, rfl⟩
  rintro τ M3 ⟨rfl, o, rfl⟩
  walk_at "dl"
  exact kp h M2 (.inl rfl) J2
end K06

set_option maxHeartbeats 4000000
namespace K06
open PySem PySem.Spec L2 DL
/-! ### one leaf changed -/
def lastI (i : Int) (q : List Int) : Int := (q.getLast?).getD i
theorem lastI_cons {i j : Int} {r : List Int} : lastI i (j :: r) = lastI j r := by
  unfold lastI
  cases r with
  | nil => rfl
  | cons a r => simp [List.getLast?_cons]
def isLeaf (v : D) : Prop := (∃ j, v = .int j) ∨ ∃ x, v = .str x
/-- what stands at q may be changed -/
def Chg (d : D) (q : List Int) (i : Int) (G : D → Prop) : Prop := ∃ v, atD d q = some v ∧ isLeaf v ∧ pathOk d q ∧ ∀ v', okCh (lastI i q) v v' → ∃ d', putD d q v' = some d' ∧ G d'
theorem leaf_split {ds : List D} {q : List Int} (h : q ∈ leavesD (.tup ds)) : ∃ A d B r, ds = A ++ d :: B ∧ q = (A.length : Int) :: r ∧ r ∈ leavesD d := by
  obtain ⟨i, r, d, rfl, hi, e, hr⟩ := leaf_tup h
  have ed : d = ds[i] := by
    rw [List.getElem?_eq_getElem hi] at e
    exact (Option.some.inj e).symm
  subst ed
  refine ⟨ds.take i, ds[i], ds.drop (i + 1), r, ?_, ?_, hr⟩
  · rw [← List.drop_eq_getElem_cons hi, List.take_append_drop]
  · rw [List.length_take, Nat.min_eq_left (by omega)]
theorem chg_tup {A B : List D} {d : D} {r : List Int} {i : Int} {G0 G : D → Prop} (h : Chg d r A.length G0) (hG : ∀ d', G0 d' → G (.tup (A ++ d' :: B))) : Chg (.tup (A ++ d :: B)) ((A.length : Int) :: r) i G := by
  obtain ⟨v, h1, h2, h3, h4⟩ := h
  have e : (A ++ d :: B)[A.length]? = some d := by simp
  refine ⟨v, by rw [at_tup e]; exact h1, h2, ?_, fun v' hv => ?_⟩
  · simp only [pathOk, Int.toNat_natCast, e]
    exact ⟨by omega, by simp; omega, h3⟩
  · rw [lastI_cons] at hv
    obtain ⟨d', h5, h6⟩ := h4 v' hv
    refine ⟨.tup (A ++ d' :: B), ?_, hG d' h6⟩
    rw [put_tup e, h5]
    simp
theorem chg_str {x : Str} {i : Int} {G : D → Prop} (h : ∀ v', okCh i (.str x) v' → G v') : Chg (.str x) [] i G := ⟨.str x, by simp [atD], .inr ⟨x, rfl⟩, by simp [pathOk], fun v' hv => ⟨v', by simp [putD], h v' (by simpa [lastI] using hv)⟩⟩
theorem chg_int {x : Int} {i : Int} {G : D → Prop} (h : ∀ j, G (.int j)) : Chg (.int x) [] i G := ⟨.int x, by simp [atD], .inl ⟨x, rfl⟩, by simp [pathOk], fun v' hv => by
  obtain ⟨j, rfl⟩ : ∃ j, v' = .int j := hv
  exact ⟨.int j, by simp [putD], h j⟩⟩
theorem leaf_str {x : Str} {r : List Int} (h : r ∈ leavesD (.str x)) : r = [] := by simpa [leavesD] using h
theorem leaf_int {x : Int} {r : List Int} (h : r ∈ leavesD (.int x)) : r = [] := by simpa [leavesD] using h
theorem groups_op : ∀ g, g ∈ groups → ∀ h, h ∈ g → ∀ h', h' ∈ g → oks h' ∧ h ≠ "call" ∧ h ≠ "look" ∧ h ≠ "table" ∧ h' ≠ "call" ∧ h' ≠ "look" ∧ h' ≠ "table" ∧ h ≠ "is" := by decide +kernel
theorem groups_cn : ∀ g, g ∈ groups → ∀ h, h ∈ g → ∀ h', h' ∈ g → (h = "and" ∨ h = "if") → (h' = "and" ∨ h' = "if") := by decide +kernel
theorem groups_bd : ∀ g, g ∈ groups → ∀ h, h ∈ g → ∀ h', h' ∈ g → h ∈ bkinds → h' ∈ bkinds ∧ ((h = "allbelow" ∨ h = "somebelow") ↔ (h' = "allbelow" ∨ h' = "somebelow")) := by decide +kernel
theorem kin_wf {h h' : Str} {nm : Option Str} {xs : List Ex} {tl : Option (List Int × Int)} (w : (Ex.nd h nm xs tl).wf okw) (k : kin h h') : (Ex.nd h' nm xs tl).wf okw := by
  rcases k with rfl | ⟨g, hg, h1, h2⟩
  · exact w
  · obtain ⟨a0, a1, a2, a3, a4, a5, a6, _⟩ := groups_op g hg h h1 h' h2
    simp only [Ex.wf] at w ⊢
    refine ⟨a0, ?_, w.2.2.1, ?_, fun e => absurd e a6, w.2.2.2.2.2⟩
    · rw [w.2.1]; simp [a1, a2, a4, a5]
    · rw [w.2.2.2.1]; simp [a3, a6]
theorem kin_is {h' : Str} (k : kin "is" h') : h' = "is" := by
  rcases k with rfl | ⟨g, hg, h1, h2⟩
  · rfl
  · exact absurd rfl (groups_op g hg _ h1 h' h2).2.2.2.2.2.2.2
theorem kin_cn {h h' : Str} (k : kin h h') (w : h = "and" ∨ h = "if") : h' = "and" ∨ h' = "if" := by
  rcases k with rfl | ⟨g, hg, h1, h2⟩
  · exact w
  · exact groups_cn g hg _ h1 h' h2 w
theorem kin_bd {h h' : Str} (k : kin h h') (w : h ∈ bkinds) : h' ∈ bkinds ∧ ((h = "allbelow" ∨ h = "somebelow") ↔ (h' = "allbelow" ∨ h' = "somebelow")) := by
  rcases k with rfl | ⟨g, hg, h1, h2⟩
  · exact ⟨w, Iff.rfl⟩
  · exact groups_bd g hg _ h1 h' h2 w
theorem toDs_app {xs ys : List Ex} : Ex.toDs (xs ++ ys) = Ex.toDs xs ++ Ex.toDs ys := by rw [toDs_map, toDs_map, toDs_map, List.map_append]
theorem toDs_cons {x : Ex} {ys : List Ex} : Ex.toDs (x :: ys) = x.toD :: Ex.toDs ys := by rw [Ex.toDs]
theorem split_toDs {tl : Option (List Int × Int)} {d : D} {B : List D} : ∀ {xs : List Ex} {A : List D}, Ex.toDs xs ++ tlD tl = A ++ d :: B →
    (∃ xs1 e xs2, xs = xs1 ++ e :: xs2 ∧ A = Ex.toDs xs1 ∧ d = e.toD ∧ B = Ex.toDs xs2 ++ tlD tl) ∨ ∃ r0 i0, tl = some (r0, i0) ∧ ((A = Ex.toDs xs ∧ d = T r0 ∧ B = [.int i0]) ∨ (A = Ex.toDs xs ++ [T r0] ∧ d = .int i0 ∧ B = []))
  | [], A, h => by
    right
    cases tl with
    | none => simp [Ex.toDs, tlD] at h
    | some p =>
      obtain ⟨r0, i0⟩ := p
      refine ⟨r0, i0, rfl, ?_⟩
      simp only [Ex.toDs, tlD, List.nil_append] at h
      cases A with
      | nil => simp at h; exact .inl ⟨rfl, h.1.symm, h.2.symm⟩
      | cons a A =>
        cases A with
        | nil => simp at h; exact .inr ⟨by simp [Ex.toDs, h.1], h.2.1.symm, h.2.2⟩
        | cons b A => simp at h
  | x :: xs, A, h => by
    rw [toDs_cons] at h
    cases A with
    | nil =>
      simp at h
      exact .inl ⟨[], x, xs, rfl, by simp [Ex.toDs], h.1.symm, h.2.symm⟩
    | cons a A =>
      simp only [List.cons_append, List.cons.injEq] at h
      rcases split_toDs h.2 with ⟨xs1, e, xs2, rfl, rfl, rfl, rfl⟩ | ⟨r0, i0, e1, h2⟩
      · exact .inl ⟨x :: xs1, e, xs2, rfl, by rw [toDs_cons, h.1], rfl, rfl⟩
      · refine .inr ⟨r0, i0, e1, ?_⟩
        rcases h2 with ⟨rfl, h2⟩ | ⟨rfl, h2⟩
        · exact .inl ⟨by rw [toDs_cons, h.1], h2⟩
        · exact .inr ⟨by rw [toDs_cons, h.1]; rfl, h2⟩
def GE (e : Ex) (d' : D) : Prop := ∃ e' : Ex, d' = e'.toD ∧ e'.wf okw ∧ dep d' = dep e.toD ∧ szD d' = szD e.toD
theorem depL_mid {A B : List D} {d d' : D} (h : dep d' = dep d) : depL (A ++ d' :: B) = depL (A ++ d :: B) := by rw [depL_app, depL_app, depL, depL, h]
theorem szL_mid {A B : List D} {d d' : D} (h : szD d' = szD d) : szL (A ++ d' :: B) = szL (A ++ d :: B) := by rw [szL_app, szL_app, szL, szL, h]
theorem ge_mid {e : Ex} {A B : List D} {d d' : D} (he : e.toD = .tup (A ++ d :: B)) (h1 : dep d' = dep d) (h2 : szD d' = szD d) {e' : Ex} (h3 : .tup (A ++ d' :: B) = e'.toD) (h4 : e'.wf okw) : GE e (.tup (A ++ d' :: B)) :=
  ⟨e', h3, h4, by rw [he, dep, dep, depL_mid h1], by rw [he, szD, szD, szL_mid h2]⟩
theorem Ex.ch : ∀ (n : Nat) (e : Ex), dep e.toD ≤ n → e.wf okw → ∀ q, q ∈ leavesD e.toD → ∀ i, 0 < i → Chg e.toD q i (GE e)
  | _, .w x, _, _, q, hq, i, hi => by
    rw [Ex.toD] at hq ⊢
    obtain rfl := leaf_str hq
    refine chg_str fun v' hv => ?_
    rcases hv with ⟨_, y, rfl, oy⟩ | ⟨z, _⟩
    · exact ⟨.w y, by rw [Ex.toD], by rw [Ex.wf]; exact oy, by simp [Ex.toD, dep], by simp [Ex.toD, szD]⟩
    · omega
  | _, .n x, _, _, q, hq, i, hi => by
    rw [Ex.toD] at hq ⊢
    obtain rfl := leaf_int hq
    exact chg_int fun j => ⟨.n j, by rw [Ex.toD], by simp [Ex.wf], by simp [Ex.toD, dep], by simp [Ex.toD, szD]⟩
  | 0, .nd h nm xs tl, hd, _, q, hq, i, hi => by simp [Ex.toD, dep] at hd
  | m + 1, .nd h nm xs tl, hd, hwf, q, hq, i, hi => by
    have hdx : ∀ x, x ∈ xs → dep x.toD ≤ m := fun x hx => by have := nd_dep (h := h) (nm := nm) (tl := tl) hx; omega
    have he : (Ex.nd h nm xs tl).toD = .tup (.str h :: (nmD nm ++ (Ex.toDs xs ++ tlD tl))) := by rw [Ex.toD]
    rw [he] at hq ⊢
    obtain ⟨A, d, B, r, e, rfl, hr⟩ := leaf_split hq
    rw [e] at he ⊢
    -- behind head and name
    have tail : ∀ C : List D, C = .str h :: nmD nm → ∀ A', A = C ++ A' → Ex.toDs xs ++ tlD tl = A' ++ d :: B → Chg (.tup (A ++ d :: B)) ((A.length : Int) :: r) i (GE (.nd h nm xs tl)) := by
      rintro C rfl A' rfl h2
      have w' := hwf
      simp only [Ex.wf] at w'
      rcases split_toDs h2 with ⟨xs1, x, xs2, rfl, rfl, rfl, rfl⟩ | ⟨r0, i0, rfl, ⟨rfl, rfl, rfl⟩ | ⟨rfl, rfl, rfl⟩⟩
      · refine chg_tup (Ex.ch m x (hdx x (by simp)) (wfs_mem.mp w'.2.2.2.2.2.2.2 x (by simp)) r hr _ (by simp; omega)) fun d' ⟨x', e1, wx, d1, z1⟩ => ?_
        refine ge_mid he d1 z1 (e' := .nd h nm (xs1 ++ x' :: xs2) tl) ?_ ?_
        · rw [e1, Ex.toD, toDs_app, toDs_cons]; simp
        · simp only [Ex.wf]
          refine ⟨w'.1, w'.2.1, w'.2.2.1, w'.2.2.2.1, fun z => by have := w'.2.2.2.2.1 z; simp at this ⊢; omega, by have := w'.2.2.2.2.2.1; simp at this ⊢; omega, w'.2.2.2.2.2.2.1, wfs_mem.mpr fun y hy => ?_⟩
          have wxs := wfs_mem.mp w'.2.2.2.2.2.2.2
          rcases List.mem_append.mp hy with hy | hy
          · exact wxs y (by simp [hy])
          · rcases List.mem_cons.mp hy with rfl | hy
            · exact wx
            · exact wxs y (by simp [hy])
      · unfold T at hr ⊢
        obtain ⟨A2, d2, B2, r2, e2, rfl, hr2⟩ := leaf_split hr
        obtain ⟨a1, c1, rfl, rfl, e3⟩ := List.map_eq_append_iff.mp e2
        obtain ⟨j, c2, rfl, rfl, rfl⟩ := List.map_eq_cons_iff.mp e3
        rw [e2]
        obtain rfl := leaf_int hr2
        refine chg_tup (G0 := fun d' => ∃ j', d' = T (a1 ++ j' :: c2)) (chg_tup (G0 := fun d' => ∃ j', d' = .int j') (chg_int fun j => ⟨j, rfl⟩) ?_) ?_
        · rintro d' ⟨j', rfl⟩
          exact ⟨j', by simp [T]⟩
        · rintro d' ⟨j', rfl⟩
          refine ge_mid he ?_ ?_ (e' := .nd h nm xs (some (a1 ++ j' :: c2, i0))) ?_ ?_
          · rw [dep_T, dep_T]
          · rw [szD_T, szD_T]; simp
          · rw [Ex.toD, tlD]; simp
          · simp only [Ex.wf]
            refine ⟨w'.1, w'.2.1, w'.2.2.1, by simpa using w'.2.2.2.1, w'.2.2.2.2.1, w'.2.2.2.2.2.1, fun r' i' z => ?_, w'.2.2.2.2.2.2.2⟩
            cases z
            have := w'.2.2.2.2.2.2.1 _ _ rfl
            simp at this ⊢
            omega
      · obtain rfl := leaf_int hr
        refine chg_tup (G0 := fun d' => ∃ j', d' = .int j') (chg_int fun j => ⟨j, rfl⟩) ?_
        rintro d' ⟨j', rfl⟩
        refine ge_mid he (by simp [dep]) (by simp [szD]) (e' := .nd h nm xs (some (r0, j'))) ?_ ?_
        · rw [Ex.toD, tlD]; simp
        · simp only [Ex.wf]
          refine ⟨w'.1, w'.2.1, w'.2.2.1, by simpa using w'.2.2.2.1, w'.2.2.2.2.1, w'.2.2.2.2.2.1, fun r' i' z => ?_, w'.2.2.2.2.2.2.2⟩
          cases z
          exact w'.2.2.2.2.2.2.1 _ _ rfl
    cases A with
    | nil =>
      simp only [List.nil_append, List.cons.injEq] at e
      obtain ⟨rfl, rfl⟩ := e
      obtain rfl := leaf_str hr
      refine chg_tup (G0 := fun d' => ∃ h', d' = .str h' ∧ kin h h') (chg_str fun v' hv => ?_) ?_
      · rcases hv with ⟨z, _⟩ | ⟨_, h', rfl, hk⟩
        · simp at z
        · exact ⟨h', rfl, hk⟩
      · rintro d' ⟨h', rfl, hk⟩
        exact ge_mid he (by simp [dep]) (by simp [szD]) (e' := .nd h' nm xs tl) (by rw [Ex.toD]; simp) (kin_wf hwf hk)
    | cons a A =>
      simp only [List.cons_append, List.cons.injEq] at e
      obtain ⟨rfl, e⟩ := e
      cases nm with
      | none => exact tail _ rfl A rfl (by simpa [nmD] using e)
      | some x =>
        cases A with
        | nil =>
          simp only [nmD, List.cons_append, List.nil_append, List.cons.injEq] at e
          obtain ⟨rfl, rfl⟩ := e
          obtain rfl := leaf_str hr
          refine chg_tup (A := [.str h]) (G0 := fun d' => ∃ y, d' = .str y ∧ okw y) (chg_str fun v' hv => ?_) ?_
          · rcases hv with ⟨_, y, rfl, oy⟩ | ⟨z, _⟩
            · exact ⟨y, rfl, oy⟩
            · simp at z
          · rintro d' ⟨y, rfl, oy⟩
            refine ge_mid (A := [.str h]) he (by simp [dep]) (by simp [szD]) (e' := .nd h (some y) xs tl) (by rw [Ex.toD]; simp [nmD]) ?_
            simp only [Ex.wf] at hwf ⊢
            exact ⟨hwf.1, by simpa using hwf.2.1, fun z hz => by cases hz; exact oy, hwf.2.2.2⟩
        | cons b A =>
          simp only [nmD, List.cons_append, List.nil_append, List.cons.injEq] at e
          obtain ⟨rfl, e⟩ := e
          exact tail _ rfl A rfl e
def GS (S : Se) (d' : D) : Prop := ∃ S' : Se, d' = S'.toD ∧ S'.wf okw ∧ S'.ht = S.ht ∧ szD d' = szD S.toD
theorem gs_mid {S : Se} {A B : List D} {d d' : D} (he : S.toD = .tup (A ++ d :: B)) (h2 : szD d' = szD d) {S' : Se} (h3 : .tup (A ++ d' :: B) = S'.toD) (h4 : S'.wf okw) (h5 : S'.ht = S.ht) : GS S (.tup (A ++ d' :: B)) :=
  ⟨S', h3, h4, h5, by rw [he, szD, szD, szL_mid h2]⟩
theorem Se.ch : ∀ (S : Se), S.wf okw → ∀ q, q ∈ leavesD S.toD → ∀ i, Chg S.toD q i (GS S)
  | .is a b, w, q, hq, i => by
    have he : (Se.is a b).toD = .tup [.str "is", a.toD, b.toD] := rfl
    simp only [Se.wf] at w
    rw [he] at hq ⊢
    obtain ⟨A, d, B, r, e, rfl, hr⟩ := leaf_split hq
    rw [e] at he ⊢
    rcases A with _ | ⟨x, _ | ⟨y, _ | ⟨z, A⟩⟩⟩
    · simp only [List.nil_append, List.cons.injEq] at e
      obtain ⟨rfl, rfl⟩ := e
      obtain rfl := leaf_str hr
      refine chg_tup (A := []) (G0 := fun d' => d' = .str "is") (chg_str fun v' hv => ?_) ?_
      · rcases hv with ⟨z, _⟩ | ⟨_, h', rfl, hk⟩
        · simp at z
        · rw [kin_is hk]
      · rintro d' rfl
        exact gs_mid he rfl (S' := .is a b) rfl w rfl
    · simp only [List.cons_append, List.nil_append, List.cons.injEq] at e
      obtain ⟨rfl, rfl, rfl⟩ := e
      refine chg_tup (A := [_]) (Ex.ch _ a (Nat.le_refl _) w.1 r hr _ (by simp)) ?_
      rintro d' ⟨a', rfl, wa, da, za⟩
      exact gs_mid (A := [_]) he za (S' := .is a' b) rfl ⟨wa, w.2.1, by omega, w.2.2.2⟩ rfl
    · simp only [List.cons_append, List.nil_append, List.cons.injEq] at e
      obtain ⟨rfl, rfl, rfl, rfl⟩ := e
      refine chg_tup (A := [_, _]) (Ex.ch _ b (Nat.le_refl _) w.2.1 r hr _ (by simp)) ?_
      rintro d' ⟨a', rfl, wa, da, za⟩
      exact gs_mid (A := [_, _]) he za (S' := .is a a') rfl ⟨w.1, wa, w.2.2.1, by omega⟩ rfl
    · simp at e
  | .cn h a b, w, q, hq, i => by
    have he : (Se.cn h a b).toD = .tup [.str h, a.toD, b.toD] := rfl
    simp only [Se.wf] at w
    rw [he] at hq ⊢
    obtain ⟨A, d, B, r, e, rfl, hr⟩ := leaf_split hq
    rw [e] at he ⊢
    rcases A with _ | ⟨x, _ | ⟨y, _ | ⟨z, A⟩⟩⟩
    · simp only [List.nil_append, List.cons.injEq] at e
      obtain ⟨rfl, rfl⟩ := e
      obtain rfl := leaf_str hr
      refine chg_tup (A := []) (G0 := fun d' => ∃ h', d' = .str h' ∧ kin h h') (chg_str fun v' hv => ?_) ?_
      · rcases hv with ⟨z, _⟩ | ⟨_, h', rfl, hk⟩
        · simp at z
        · exact ⟨h', rfl, hk⟩
      · rintro d' ⟨h', rfl, hk⟩
        exact gs_mid he (by simp [szD]) (S' := .cn h' a b) rfl ⟨kin_cn hk w.1, w.2⟩ rfl
    · simp only [List.cons_append, List.nil_append, List.cons.injEq] at e
      obtain ⟨rfl, rfl, rfl⟩ := e
      refine chg_tup (A := [_]) (Se.ch a w.2.1 r hr _) ?_
      rintro d' ⟨a', rfl, wa, da, za⟩
      exact gs_mid (A := [_]) he za (S' := .cn h a' b) rfl ⟨w.1, wa, w.2.2⟩ (by simp [Se.ht, da])
    · simp only [List.cons_append, List.nil_append, List.cons.injEq] at e
      obtain ⟨rfl, rfl, rfl, rfl⟩ := e
      refine chg_tup (A := [_, _]) (Se.ch b w.2.2 r hr _) ?_
      rintro d' ⟨a', rfl, wa, da, za⟩
      exact gs_mid (A := [_, _]) he za (S' := .cn h a a') rfl ⟨w.1, w.2.1, wa⟩ (by simp [Se.ht, da])
    · simp at e
  | .bd h x lim s, w, q, hq, i => by
    have he : (Se.bd h x lim s).toD = .tup (.str h :: .str x :: (limD lim ++ [s.toD])) := rfl
    simp only [Se.wf] at w
    rw [he] at hq ⊢
    obtain ⟨A, d, B, r, e, rfl, hr⟩ := leaf_split hq
    rw [e] at he ⊢
    have last : ∀ A', A = .str h :: .str x :: (limD lim ++ A') → [s.toD] = A' ++ d :: B → Chg (.tup (A ++ d :: B)) ((A.length : Int) :: r) i (GS (.bd h x lim s)) := by
      rintro A' rfl h2
      cases A' with
      | nil =>
        simp only [List.nil_append, List.cons.injEq] at h2
        obtain ⟨rfl, rfl⟩ := h2
        refine chg_tup (Se.ch s w.2.2.2 r hr _) ?_
        rintro d' ⟨a', rfl, wa, da, za⟩
        exact gs_mid he za (S' := .bd h x lim a') (by simp [Se.toD]) ⟨w.1, w.2.1, w.2.2.1, wa⟩ (by simp [Se.ht, da])
      | cons b A' => simp at h2
    rcases A with _ | ⟨y, _ | ⟨z, A⟩⟩
    · simp only [List.nil_append, List.cons.injEq] at e
      obtain ⟨rfl, rfl⟩ := e
      obtain rfl := leaf_str hr
      refine chg_tup (A := []) (G0 := fun d' => ∃ h', d' = .str h' ∧ kin h h') (chg_str fun v' hv => ?_) ?_
      · rcases hv with ⟨z, _⟩ | ⟨_, h', rfl, hk⟩
        · simp at z
        · exact ⟨h', rfl, hk⟩
      · rintro d' ⟨h', rfl, hk⟩
        have := kin_bd hk w.1
        exact gs_mid he (by simp [szD]) (S' := .bd h' x lim s) rfl ⟨this.1, w.2.1, by rw [w.2.2.1, this.2], w.2.2.2⟩ rfl
    · simp only [List.cons_append, List.nil_append, List.cons.injEq] at e
      obtain ⟨rfl, rfl, rfl⟩ := e
      obtain rfl := leaf_str hr
      refine chg_tup (A := [_]) (G0 := fun d' => ∃ y, d' = .str y ∧ okw y) (chg_str fun v' hv => ?_) ?_
      · rcases hv with ⟨_, y, rfl, oy⟩ | ⟨z, _⟩
        · exact ⟨y, rfl, oy⟩
        · simp at z
      · rintro d' ⟨y, rfl, oy⟩
        exact gs_mid (A := [_]) he (by simp [szD]) (S' := .bd h y lim s) rfl ⟨w.1, oy, w.2.2⟩ rfl
    · simp only [List.cons_append, List.cons.injEq] at e
      obtain ⟨rfl, rfl, e⟩ := e
      cases lim with
      | none => exact last A rfl (by simpa [limD] using e)
      | some i0 =>
        cases A with
        | nil =>
          simp only [limD, List.cons_append, List.nil_append, List.cons.injEq] at e
          obtain ⟨rfl, rfl⟩ := e
          obtain rfl := leaf_int hr
          refine chg_tup (A := [_, _]) (G0 := fun d' => ∃ j', d' = .int j') (chg_int fun j => ⟨j, rfl⟩) ?_
          rintro d' ⟨j', rfl⟩
          exact gs_mid (A := [_, _]) he (by simp [szD]) (S' := .bd h x (some j') s) (by simp [Se.toD, limD]) ⟨w.1, w.2.1, by simpa using w.2.2.1, w.2.2.2⟩ rfl
        | cons b A =>
          simp only [limD, List.cons_append, List.nil_append, List.cons.injEq] at e
          obtain ⟨rfl, e⟩ := e
          exact last A rfl e
theorem leaves_ne : ∀ S : Se, leavesD S.toD ≠ []
  | .is a b => by simp [Se.toD, leavesD, leavesL]
  | .cn h a b => by simp [Se.toD, leavesD, leavesL]
  | .bd h x lim s => by simp [Se.toD, leavesD, leavesL]
end K06

set_option maxHeartbeats 4000000
namespace K06
open PySem L2 DL
local macro_rules | `(tactic| walk_at "dl") => `(tactic| simp only [dSeq, dIfS, dB, dTru, truD, dOp, dVar, dC, dAsg, dAug, dCB, dCons, dNil, dRet, dRetN, dName, dGSub, dNext, ends, exOf, dstart, slot, oI0, oI, dAnd, dOr, dNot, dAndV, dOrV, dNotV, dNeg, dSl, dNoP, dPart, dFld, dFldS, dRaise, dLst, dTup, dFor, dIter, dRng1, dRng2, dCall, dMake, dMeth, dIxO, dLc, dYes, dGTup, dGCons, dGNil, dDrop, dBreak, dBM, dDIn, dDGet, dDGet2, dDNew, dGSubD, dDStar,
  eqD_str, neD_str, eqD_int, neD_int, ixG_t0, ixG_t1, isiG_str, isi_int, isi_int_s, isi_int_t, isi_tup, isi_tup_s, isi_tup_i, isi_str_i, isi_str_t, lenG_tup, addD_int, mulD_int, intG, List.nil_append, bne_iff_ne, ofS_inj, Bool.false_bne, Bool.true_bne,
  List.map, List.length_cons, List.length_nil, List.cons_append, List.append_nil, List.replicate, List.set, List.getElem?_cons_zero, List.getElem?_cons_succ, Option.join_some, Option.bind_some, decide_eq_true_eq])
variable {K : PySem.W.Frag} {A : Adr}
theorem path_dep : ∀ (q : List Int) (d : D), pathOk d q → q.length ≤ dep d
  | [], d, _ => by simp
  | i :: q, .tup xs, h => by
    simp only [pathOk] at h
    obtain ⟨h0, h1, h2⟩ := h
    cases e : xs[i.toNat]? with
    | none => rw [e] at h2; exact h2.elim
    | some d =>
      rw [e] at h2
      have := path_dep q d h2
      have := depL_mem (List.mem_of_getElem? e)
      rw [dep]
      simp
      omega
  | _ :: _, .non, h => by simp [pathOk] at h
  | _ :: _, .bl _, h => by simp [pathOk] at h
  | _ :: _, .int _, h => by simp [pathOk] at h
  | _ :: _, .str _, h => by simp [pathOk] at h
  | _ :: _, .ref _, h => by simp [pathOk] at h
  | _ :: _, .ty _, h => by simp [pathOk] at h
theorem se_tup (S : Se) : ∃ xs, S.toD = .tup xs := by
  cases S
  · exact ⟨_, rfl⟩
  · exact ⟨_, rfl⟩
  · exact ⟨_, rfl⟩
theorem neD_se {S S' : Se} {M : Mp} {Q : DK} (f : fine S) (f' : fine S') (k : ∀ b : Bool, Q (.bl b) M) : neD S'.toD S.toD M Q := by
  have o1 := Se.ok (fun _ h => okw_oks h) S f.1
  have o2 := Se.ok (fun _ h => okw_oks h) S' f'.1
  have d1 := Se.dep_le S f.1
  have := f.2.1
  obtain ⟨xs, e⟩ := se_tup S
  obtain ⟨ys, e'⟩ := se_tup S'
  rw [e] at o1 d1 ⊢
  rw [e'] at o2 ⊢
  exact ⟨⟨o2, o1, by omega⟩, k _⟩
set_option maxHeartbeats 2000000 in
theorem r_law_changed : ∀ ds M Q E, sp_law_changed ds M Q E → t_law_changed K A (ends Q E) (dstart N_law_changed ds) M := by
  rintro ds M Q E ⟨s, l, ns, S, w, words, rfl, P, fS, nw, hw, ww, k⟩
  have J := LS.zero (S := Is s) P rfl
  have fin : ∀ (S' : Se) M', fine S' → LS (Is s) M M' s l ns → dropQ Q S'.toD M' := fun S' M' h J' => dropQ_of (k S' h M' J'.P J'.X) .refl
  have hw' : ∀ {M'}, LS (Is s) M M' s l ns → M' w = some (.lst (words.map D.str)) := fun J' => J'.X _ _ nw hw
  obtain ⟨wS, hS, zS⟩ := fS
  have dS := Se.dep_le S wS
  unfold t_law_changed N_law_changed
  simp only [dstart, List.map, List.length_cons, List.length_nil, List.replicate, List.cons_append, List.nil_append]
  have ln := leaves_sz S.toD
  have l0 : 0 < (leavesD S.toD).length := List.length_pos_iff.mpr (leaves_ne S)
  refine seq_split (fun τ M' => LS (Is s) M M' s l ns ∧ ∃ p, Own (Is s) M M' s l p (.lst ((leavesD S.toD).map T)) ∧ τ = [some (.ref s), some S.toD, some (.ref w), some (.ref p), none, none, none, none, none]) ?_ ?_
  rotate_left
  · intro nx hnx
    walk_at "dl"
    refine ⟨by rw [sizeLine_eq]; omega, S.toD, [], rfl, Se.pure S, by omega, zS, by simp; omega, fun p hp => ?_⟩
    simp only [List.nil_append]
    exact hnx _ _ ⟨J.new hp, p, .new J hp, rfl⟩
  rintro τ M1 ⟨J1, p, O1, rfl⟩
  unfold B at zS
  refine seq_split (fun τ M' => LS (Is s) M M' s l ns ∧ ∃ o1 o2 o3 o4 o5 : Option D, τ = [some (.ref s), some S.toD, some (.ref w), some (.ref p), o1, o2, o3, o4, o5]) ?_ ?_
  rotate_left
  · intro nx hnx
    walk_at "dl"
    refine ⟨by omega, by omega, ?_⟩
    refine dLoop_inv (fun i τ M' => LS (Is s) M M' s l ns ∧ Own (Is s) M M' s l p (.lst ((leavesD S.toD).map T)) ∧ ∃ o1 o2 o3 o4 o5 : Option D, τ = [some (.ref s), some S.toD, some (.ref w), some (.ref p), o1, o2, o3, o4, o5]) (fun _ _ _ _ _ => trivial) ?_ ?_ ⟨J1, O1, _, _, _, _, _, rfl⟩
    · rintro i d τ M2 nxt hd ⟨J2, O2, o1, o2, o3, o4, o5, rfl⟩ hnx'
      obtain ⟨hi, rfl⟩ := rng_at hd
      refine seq_split (fun τ M' => LS (Is s) M M' s l ns ∧ Own (Is s) M M' s l p (.lst ((leavesD S.toD).map T)) ∧ ∃ q, q ∈ leavesD S.toD ∧ τ = [some (.ref s), some S.toD, some (.ref w), some (.ref p), some (.int i), some (T q), o3, o4, o5]) ?_ ?_
      rotate_left
      · intro nx hnx
        walk_at "dl"
        rw [lenG_at O2.a]
        refine J2.pickAtW O2.a O2.ns rfl (by simpa using l0) (by simp; omega) fun v M3 hv J3 e3 => ?_
        obtain ⟨q, hq, rfl⟩ := List.mem_map.mp hv
        exact hnx _ _ ⟨J3, O2.ext e3, q, hq, rfl⟩
      rintro τ M3 ⟨J3, O3, q, hq, rfl⟩
      obtain ⟨v, v1, v2, v3, v4⟩ := Se.ch S wS q hq 0
      have lq := path_dep q _ v3
      obtain ⟨q', j, rfl⟩ : ∃ q' j, q = q' ++ [j] := by
        have : q ≠ [] := by
          rintro rfl
          obtain ⟨xs, e⟩ := se_tup S
          rw [e] at hq
          obtain ⟨_, _, _, z, _⟩ := leaf_tup hq
          cases z
        exact ⟨q.dropLast, q.getLast this, (List.dropLast_concat_getLast this).symm⟩
      have lj : lastI 0 (q' ++ [j]) = j := by simp [lastI]
      rw [lj] at v4
      refine seq_split (fun τ M' => M3 = M' ∧ τ = [some (.ref s), some S.toD, some (.ref w), some (.ref p), some (.int i), some (T (q' ++ [j])), some S.toD, o4, o5]) ?_ ?_
      rotate_left
      · intro nx hnx
        walk_at "dl"
        exact hnx _ _ ⟨rfl, rfl⟩
      rintro τ M4 ⟨rfl, rfl⟩
      refine seq_split (fun τ M' => M3 = M' ∧ ∃ o4, τ = [some (.ref s), some S.toD, some (.ref w), some (.ref p), some (.int i), some (T (q' ++ [j])), some v, o4, o5]) ?_ ?_
      rotate_left
      · intro nx hnx
        walk_at "dl"
        simp only [itemsOf_T, keepOf_T]
        refine dLoop_inv (fun m τ M' => M3 = M' ∧ ∃ d o4, atD d ((q' ++ [j]).drop m) = some v ∧ pathOk d ((q' ++ [j]).drop m) ∧ τ = [some (.ref s), some S.toD, some (.ref w), some (.ref p), some (.int i), some (T (q' ++ [j])), some d, o4, o5]) (fun _ _ _ _ _ => trivial) ?_ ?_ ⟨rfl, _, _, v1, v3, rfl⟩
        · rintro m d τ M' nxt2 hd2 ⟨rfl, d', o4, a1, a2, rfl⟩ hnx2
          have hm := (List.getElem?_eq_some_iff.mp hd2).1
          rw [List.length_map] at hm
          rw [List.getElem?_map, List.getElem?_eq_getElem hm] at hd2
          obtain rfl : d = .int (q' ++ [j])[m] := by simpa using hd2.symm
          rw [List.drop_eq_getElem_cons hm] at a1 a2
          generalize (q' ++ [j])[m] = u at *
          cases d' with
          | tup xs =>
            simp only [pathOk] at a2
            obtain ⟨u0, u1, u2⟩ := a2
            simp only [atD] at a1
            obtain ⟨d2, e1, e2, e3⟩ := atI_in u0 u1
            rw [e3] at a1 u2
            walk_at "dl"
            simp only [ixG, e1]
            exact hnx2 _ _ ⟨rfl, d2, _, a1, u2, rfl⟩
          | _ => simp [pathOk] at a2
        · rintro τ M' ⟨rfl, d', o4, a1, a2, rfl⟩
          rw [List.length_map, List.drop_length] at a1
          simp only [atD, Option.some.injEq] at a1
          subst a1
          exact hnx _ _ ⟨rfl, o4, rfl⟩
      rintro τ M4 ⟨rfl, o4, rfl⟩
      refine seq_split (fun τ M' => LS (Is s) M M' s l ns ∧ Own (Is s) M M' s l p (.lst ((leavesD S.toD).map T)) ∧ ∃ S' : Se, fine S' ∧ τ = [some (.ref s), some S.toD, some (.ref w), some (.ref p), some (.int i), some (T (q' ++ [j])), some v, o4, some S'.toD]) ?_ ?_
      rotate_left
      · intro nx hnx
        walk_at "dl"
        refine ⟨s, l, ns, v, q', j, w, words, rfl, J3.P, v2, nw, hw' J3, ww, fun v' hv => drawn_ls J3 fun M5 J5 e5 => ?_⟩
        obtain ⟨d', p1, S', rfl, w', h', z'⟩ := v4 v' hv
        refine ⟨S.toD, q' ++ [j], v', S'.toD, rfl, by omega, p1, v3, by unfold B; omega, ?_⟩
        exact hnx _ _ ⟨J5, O3.ext e5, S', ⟨w', by omega, by unfold B; omega⟩, rfl⟩
      rintro τ M5 ⟨J5, O5, S', f', rfl⟩
      walk_at "dl"
      refine neD_se ⟨wS, hS, by unfold B; omega⟩ f' fun b => ?_
      cases b
      · simp
        exact hnx' _ _ ⟨J5, O5, _, _, _, _, _, rfl⟩
      · simp
        refine ⟨S', rfl, f', fun r => ?_⟩
        cases r
        · simp
          exact hnx' _ _ ⟨J5, O5, _, _, _, _, _, rfl⟩
        · simp
          exact fin S' M5 f' J5
    · rintro τ M2 ⟨J2, O2, o1, o2, o3, o4, o5, rfl⟩
      exact hnx _ _ ⟨J2, o1, o2, o3, o4, o5, rfl⟩
  rintro τ M2 ⟨J2, o1, o2, o3, o4, o5, rfl⟩
  walk_at "dl"
  exact fin S M2 ⟨wS, hS, by unfold B; omega⟩ J2
end K06

set_option maxHeartbeats 4000000
namespace K06
open PySem L2 DL
local macro_rules | `(tactic| walk_at "dl") => `(tactic| simp only [dSeq, dIfS, dB, dTru, truD, dOp, dVar, dC, dAsg, dAug, dCB, dCons, dNil, dRet, dRetN, dName, dGSub, dNext, ends, exOf, dstart, slot, oI0, oI, dAnd, dOr, dNot, dAndV, dOrV, dNotV, dNeg, dSl, dNoP, dPart, dFld, dFldS, dRaise, dLst, dTup, dFor, dIter, dRng1, dRng2, dCall, dMake, dMeth, dIxO, dLc, dYes, dGTup, dGCons, dGNil, dDrop, dBreak, dBM, dDIn, dDGet, dDGet2, dDNew, dGSubD, dDStar,
  eqD_str, neD_str, eqD_int, neD_int, ixG_t0, ixG_t1, isiG_str, isi_int, isi_int_s, isi_int_t, isi_tup, isi_tup_s, isi_tup_i, isi_str_i, isi_str_t, lenG_tup, addD_int, mulD_int, intG, List.nil_append, bne_iff_ne, ofS_inj, Bool.false_bne, Bool.true_bne,
  List.map, List.length_cons, List.length_nil, List.cons_append, List.append_nil, List.replicate, List.set, List.getElem?_cons_zero, List.getElem?_cons_succ, Option.join_some, Option.bind_some, decide_eq_true_eq])
variable {K : PySem.W.Frag} {A : Adr}
theorem _root_.DL.LS.extNew {S : Addr → Prop} {M0 M M2 : Mp} {s l p : Addr} {ns : List Int} {o : MO} (J : LS S M0 M s l ns) (hp : M p = none) (P : PSt M2 s l ns) (e : Ext (S2 s p) (put M p o) M2) : LS S M0 M2 s l ns := ⟨P, fun a u n h => by
  have h1 := J.X a u n h
  have np : a ≠ p := by rintro rfl; rw [hp] at h1; cases h1
  refine e a u (fun z => z.elim (fun z => n (z ▸ J.S)) np) ?_
  rw [put_ne np]; exact h1, J.S⟩
theorem plain_ht : ∀ (S : Se) (env : Env) (d : Nat), (S.plain env d).ht = S.ht
  | .is a b, env, d => by simp [Se.plain, Se.ht]
  | .cn h a b, env, d => by simp [Se.plain, Se.ht, plain_ht a, plain_ht b]
  | .bd h x lim s, env, d => by simp [Se.plain, Se.ht, plain_ht s]
theorem eqD_plain {S T : Se} {M : Mp} {Q : DK} (f : fine S) (g : fine T) (k : ∀ b : Bool, (b = true ↔ S.plain id 0 = T.plain id 0) → Q (.bl b) M) : eqD (S.plain id 0).toD (T.plain id 0).toD M Q := by
  have w1 := Se.plain_wf S id 0 f.1 (by have := f.2.1; omega) fun x h => h.1
  have w2 := Se.plain_wf T id 0 g.1 (by have := g.2.1; omega) fun x h => h.1
  have o1 := Se.ok (fun _ h => h) _ w1
  have o2 := Se.ok (fun _ h => h) _ w2
  have d1 := Se.dep_le _ w1
  rw [plain_ht] at d1
  have := f.2.1
  have key := eqb_iff _ _ (Se.pure (S.plain id 0)) (Se.pure (T.plain id 0))
  have kb : eqb (S.plain id 0).toD (T.plain id 0).toD = true ↔ S.plain id 0 = T.plain id 0 := by
    rw [key]
    exact ⟨Se.inj _ _ w1 w2, fun e => by rw [e]⟩
  have k2 := k _ kb
  obtain ⟨xs, e⟩ := se_tup (S.plain id 0)
  obtain ⟨ys, e'⟩ := se_tup (T.plain id 0)
  rw [e] at o1 d1 k2 ⊢
  rw [e'] at o2 k2 ⊢
  refine ⟨⟨o1, o2, by omega⟩, ?_⟩
  rw [Bool.false_bne]
  exact k2
theorem env0 {M : Mp} {a : Addr} (h : M a = some (.dk [])) : EnvS M a 0 id := ⟨[], h, by simp, fun x => rfl⟩
/-- names, as they grow -/
def Nam (kvs : List (Key × D)) (n : Nat) : Prop := kvs.length ≤ n ∧ ∀ q, q ∈ kvs → ∃ (x : Str) (i : Int), q = (.inr x, .int i) ∧ okw x ∧ 0 ≤ i ∧ i ≤ 3
theorem Nam.put {kvs : List (Key × D)} {n : Nat} (h : Nam kvs n) {x : Str} (ox : okw x) {b : Int} (b0 : 0 ≤ b) (b1 : b ≤ 3) : Nam (putKD kvs (.inr x) (.int b)) (n + 1) := by
  refine ⟨by have := putKD_length (l := kvs) (k := .inr x) (d := .int b); have := h.1; omega, fun q hq => ?_⟩
  rcases putKD_mem hq with rfl | hq
  · exact ⟨x, b, rfl, ox, b0, b1⟩
  · exact h.2 q hq
theorem words_at {M : Mp} {a : Addr} {xs : List Str} (h : M a = some (.lst (xs.map D.str))) {i : Int} (h0 : 0 ≤ i) (h1 : i < xs.length) {Q : DK} (k : ∀ x, x ∈ xs → Q (.str x) M) : ixG (.ref a) (.int i) M Q := by
  obtain ⟨d, e, hm, _⟩ := atI_in (xs := xs.map D.str) h0 (by simpa using h1)
  obtain ⟨x, hx, rfl⟩ := List.mem_map.mp hm
  rw [ixG_at h e]
  exact k x hx
def PairOk (d : D) : Prop := ∃ i j : Int, d = .tup [.int i, .int j] ∧ 0 ≤ i ∧ i < 6 ∧ 0 ≤ j ∧ j < 6
def funD : D := .tup [.tup [.str "a"], .str "a"]
set_option maxHeartbeats 4000000 in
theorem r_law : ∀ ds M Q E, sp_law K ds M Q E → t_law K A (ends Q E) (dstart N_law ds) M := by
  rintro ds M Q E ⟨a0, ns, rfl, hM, hl, hb, k⟩
  have fin : ∀ M', dropQ Q (.bl true) M' := fun M' => dropQ_of (k M') .refl
  unfold t_law N_law
  simp only [dstart, List.map, List.length_cons, List.length_nil, List.replicate, List.cons_append, List.nil_append]
  refine seq_split (fun τ M' => ∃ s l, PSt M' s l ns ∧ τ = [some (.ref a0), some (.ref s), none, none, none, none, none, none, none, none, none, none, none, none, none]) ?_ ?_
  rotate_left
  · intro nx hnx
    walk_at "dl"
    exact ⟨a0, ns, rfl, hM, hl, fun s l M' P _ => hnx _ _ ⟨s, l, P, rfl⟩⟩
  rintro τ M0 ⟨s, l, P, rfl⟩
  have J := LS.zero (S := Is s) P rfl
  -- words
  refine seq_split (fun τ M' => LS (Is s) M0 M' s l ns ∧ ∃ (w : Addr) (xs : List Str), Own (Is s) M0 M' s l w (.lst (xs.map D.str)) ∧ xs.length = 5 ∧ WordsOk xs ∧ τ = [some (.ref a0), some (.ref s), some (.ref w), none, none, none, none, none, none, none, none, none, none, none, none]) ?_ ?_
  rotate_left
  · intro nx hnx
    walk_at "dl"
    refine ⟨Nat.zero_le _, fun p hp => ?_⟩
    have J1 := J.new (o := .lst []) hp
    refine ⟨s, l, ns, p, [], rfl, J1.P, (P.s_some hp).1, put_same, by simp, fun p' xs hp' lx wx => drawn_ls J1 fun M2 J2 e2 st => ?_⟩
    exact hnx _ _ ⟨J2, p', xs, ⟨st, J1.zeroA hp', (J1.P.s_some hp').1, (J1.P.s_some hp').2⟩, lx, wx, rfl⟩
  rintro τ M1 ⟨J1, w, xs, W1, lx, wx, rfl⟩
  -- names
  refine seq_split (fun τ M' => LS (Is s) M0 M' s l ns ∧ Own (Is s) M0 M' s l w (.lst (xs.map D.str)) ∧ ∃ na, na ≠ w ∧ Own (Is s) M0 M' s l na (.dk []) ∧ τ = [some (.ref a0), some (.ref s), some (.ref w), some (.ref na), none, none, none, none, none, none, none, none, none, none, none]) ?_ ?_
  rotate_left
  · intro nx hnx
    walk_at "dl"
    intro p hp
    exact hnx _ _ ⟨J1.new hp, W1.lay hp, p, W1.ne hp, .new J1 hp, rfl⟩
  rintro τ M2 ⟨J2, W2, na, nw, N2, rfl⟩
  refine seq_split (fun τ M' => LS (Is s) M0 M' s l ns ∧ Own (Is s) M0 M' s l w (.lst (xs.map D.str)) ∧ ∃ nv o, Nam nv 3 ∧ Own (Is s) M0 M' s l na (.dk nv) ∧ τ = [some (.ref a0), some (.ref s), some (.ref w), some (.ref na), o, none, none, none, none, none, none, none, none, none, none]) ?_ ?_
  rotate_left
  · intro nx hnx
    walk_at "dl"
    refine ⟨by omega, by omega, ?_⟩
    refine dLoop_inv (fun i τ M' => LS (Is s) M0 M' s l ns ∧ Own (Is s) M0 M' s l w (.lst (xs.map D.str)) ∧ ∃ nv o, Nam nv i ∧ Own (Is s) M0 M' s l na (.dk nv) ∧ τ = [some (.ref a0), some (.ref s), some (.ref w), some (.ref na), o, none, none, none, none, none, none, none, none, none, none]) (fun _ _ _ _ _ => trivial) ?_ ?_ ⟨J2, W2, [], _, ⟨by simp, fun _ h => nomatch h⟩, N2, rfl⟩
    · rintro i d τ M3 nxt hd ⟨J3, W3, nv, o, n3, N3, rfl⟩ hnx'
      obtain ⟨hi, rfl⟩ := rng_at hd
      have hi' : i < 3 := hi
      walk_at "dl"
      refine words_at W3.a (by omega) (by omega) fun x hx => ?_
      simp only [N3.a, keyD]
      have := n3.1
      refine ⟨by rw [sizeLine_eq]; omega, hnx' _ _ ⟨J3.set N3, W3.put nw, _, _, n3.put (wx.2 x hx) (by decide) (by decide), N3.set, rfl⟩⟩
    · rintro τ M3 ⟨J3, W3, nv, o, n3, N3, rfl⟩
      exact hnx _ _ ⟨J3, W3, nv, o, by simpa [len_rng] using n3, N3, rfl⟩
  rintro τ M3 ⟨J3, W3, nv3, o4, n3, N3, rfl⟩
  refine seq_split (fun τ M' => LS (Is s) M0 M' s l ns ∧ Own (Is s) M0 M' s l w (.lst (xs.map D.str)) ∧ ∃ nv, Nam nv 4 ∧ Own (Is s) M0 M' s l na (.dk nv) ∧ τ = [some (.ref a0), some (.ref s), some (.ref w), some (.ref na), o4, none, none, none, none, none, none, none, none, none, none]) ?_ ?_
  rotate_left
  · intro nx hnx
    walk_at "dl"
    refine words_at W3.a (by omega) (by omega) fun x hx => ?_
    simp only [N3.a, keyD]
    have := n3.1
    exact ⟨by rw [sizeLine_eq]; omega, hnx _ _ ⟨J3.set N3, W3.put nw, _, n3.put (wx.2 x hx) (by decide) (by decide), N3.set, rfl⟩⟩
  rintro τ M4 ⟨J4, W4, nv4, n4, N4, rfl⟩
  refine seq_split (fun τ M' => LS (Is s) M0 M' s l ns ∧ Own (Is s) M0 M' s l w (.lst (xs.map D.str)) ∧ ∃ nv, NamesOk nv ∧ nv.length ≤ 5 ∧ Own (Is s) M0 M' s l na (.dk nv) ∧ τ = [some (.ref a0), some (.ref s), some (.ref w), some (.ref na), o4, none, none, none, none, none, none, none, none, none, none]) ?_ ?_
  rotate_left
  · intro nx hnx
    walk_at "dl"
    refine J4.pick (by decide) (by decide) fun r M5 r0 r1 J5 e5 => ?_
    simp only [addD_int]
    refine words_at (W4.ext e5).a (by omega) (by omega) fun x hx => ?_
    simp only [(N4.ext e5).a, keyD]
    have := n4.1
    have n5 := n4.put (wx.2 x hx) (b := 1 + r) (by omega) (by omega)
    exact ⟨by rw [sizeLine_eq]; omega, hnx _ _ ⟨J5.set (N4.ext e5), (W4.ext e5).put nw, _, ⟨putKD_ne, by have := n5.1; omega, n5.2⟩, n5.1, (N4.ext e5).set, rfl⟩⟩
  rintro τ M5 ⟨J5, W5, nv, wn, ln, N5, rfl⟩
  -- functions
  refine seq_split (fun τ M' => LS (Is s) M0 M' s l ns ∧ Own (Is s) M0 M' s l w (.lst (xs.map D.str)) ∧ Own (Is s) M0 M' s l na (.dk nv) ∧ ∃ fa kvs, FunsOk kvs ∧ Own (Is s) M0 M' s l fa (.dk kvs) ∧ τ = [some (.ref a0), some (.ref s), some (.ref w), some (.ref na), o4, some (.ref fa), none, none, none, none, none, none, none, none, none]) ?_ ?_
  rotate_left
  · intro nx hnx
    simp only [dAsg, dDisp, dPairs]
    walk_at "dl"
    intro p hp
    have J6 := J5.new (o := .dk []) hp
    refine J6.pick (by decide) (by decide) fun r M6 r0 r1 J6 e6 => ?_
    refine words_at ((W5.lay hp).ext e6).a r0 (by omega) fun x hx => ?_
    refine ⟨by rw [sizeLine_eq]; omega, by rw [sizeLine_eq]; omega, Nat.zero_le _, fun q hq => ?_⟩
    have O6 := (Own.new J5 hp (o := .dk [])).ext e6
    refine (J6.new hq).word (used := []) (J6.P.s_some hq).1 put_same fun y M7 oy J7 e7 => ?_
    have O7 := (O6.lay hq (u := .lst [])).ext e7
    refine ⟨by rw [sizeLine_eq]; omega, by rw [sizeLine_eq]; omega, O7.a, ?_⟩
    refine ⟨by simp, hnx _ _ ⟨J7.set O7, ((((W5.lay hp).ext e6).lay hq).ext e7).put (W5.ne hp), ((((N5.lay hp).ext e6).lay hq).ext e7).put (N5.ne hp), p, _, ?_, O7.set, rfl⟩⟩
    refine ⟨?_, fun z hz => ?_⟩
    · have h1 := putKD_length (l := []) (k := .inr x) (d := funD)
      have h2 := putKD_length (l := putKD [] (.inr x) funD) (k := .inr y) (d := funD)
      exact Nat.le_trans h2 (Nat.succ_le_succ h1)
    · have hz' : z ∈ putKD (putKD [] (.inr x) funD) (.inr y) funD := hz
      rcases putKD_mem hz' with rfl | hz
      · exact ⟨y, rfl, oy⟩
      · rcases putKD_mem hz with rfl | hz
        · exact ⟨x, rfl, wx.2 x hx⟩
        · cases hz
  rintro τ M6 ⟨J6, W6, N6, fa, kvs, wf, F6, rfl⟩
  -- met
  have met : ∀ (lv : Int) (r : Int) (M' : Mp) (Q' : DK) (E' : EK), LS (Is s) M0 M' s l ns → M' na = some (.dk nv) → M' fa = some (.dk kvs) → 0 ≤ lv → lv < 6 → (∀ (S : Se) (M2 : Mp), fine S → LS (Is s) M0 M2 s l ns → (∀ a o, a ≠ s → M' a = some o → M2 a = some o) → Q' S.toD M2) →
      ∀ p, M' p = none → sp_law_met 8 [.ref s, .ref na, .ref fa, .int lv, .ref p] (put M' p (.lst [.int r])) Q' E' := by
    intro lv r M' Q' E' J' h1 h2 l0 l1 h3 p hp
    obtain ⟨lv, rfl⟩ : ∃ v : Nat, lv = v := ⟨lv.toNat, by omega⟩
    have J2 := J'.new (o := .lst [.int r]) hp
    refine ⟨s, l, ns, na, fa, p, nv, kvs, r, lv, rfl, J2.P, at_lay h1 hp, wn, by omega, at_lay h2 hp, wf, put_same, (J'.P.s_some hp).1, (J'.P.s_some hp).2, by omega, fun S M2 j w1 w2 w3 P2 e2 _ => ?_⟩
    have z : 2 ^ lv ≤ 2 ^ 5 := Nat.pow_le_pow_right (by decide) (by omega)
    refine h3 S M2 ⟨w1, by omega, by unfold B; omega⟩ (J'.extNew hp P2 e2) fun a o ha hao => ?_
    have np : a ≠ p := by rintro rfl; rw [hp] at hao; cases hao
    exact e2 a o (fun z => z.elim ha np) (by rw [put_ne np]; exact hao)
  -- sentence
  refine seq_split (fun τ M' => LS (Is s) M0 M' s l ns ∧ M' w = some (.lst (xs.map D.str)) ∧ M' na = some (.dk nv) ∧ M' fa = some (.dk kvs) ∧ ∃ S, fine S ∧ τ = [some (.ref a0), some (.ref s), some (.ref w), some (.ref na), o4, some (.ref fa), some S.toD, none, none, none, none, none, none, none, none]) ?_ ?_
  rotate_left
  · intro nx hnx
    walk_at "dl"
    refine J6.pick (by decide) (by decide) fun r M7 r0 r1 J7 e7 => ?_
    have W7 := (W6.ext e7)
    have N7 := (N6.ext e7)
    have F7 := (F6.ext e7)
    simp only [eqD_int]
    by_cases c : r = 0
    · subst c
      simp
      exact ⟨s, l, ns, na, fa, nv, kvs, rfl, J7.P, N7.a, wn, F7.a, wf, fun S f => drawn_ls J7 fun M8 J8 e8 => hnx _ _ ⟨J8, (W7.ext e8).a, (N7.ext e8).a, (F7.ext e8).a, S, f, rfl⟩⟩
    · simp [c]
      refine J7.pick (by decide) (by decide) fun lv M8 l0 l1 J8 e8 => ⟨by rw [sizeLine_eq]; omega, ?_⟩
      exact met lv 3 M8 _ _ J8 (N7.ext e8).a (F7.ext e8).a l0 l1 fun S M9 f J9 e9 => hnx _ _ ⟨J9, e9 _ _ W7.ns (W7.ext e8).a, e9 _ _ N7.ns (N7.ext e8).a, e9 _ _ F7.ns (F7.ext e8).a, S, f, rfl⟩
  rintro τ M7 ⟨J7, W7, N7, F7, S, f, rfl⟩
  have ws := W6.ns
  have nas := N6.ns
  have fas := F6.ns
  have w0 : xs ≠ [] := by rintro rfl; cases lx
  have ren : ∀ (S : Se) (M' : Mp) (Q' : DK) (E' : EK), fine S → LS (Is s) M0 M' s l ns → M' w = some (.lst (xs.map D.str)) → (∀ (S' : Se) (M2 : Mp), fine S' → LS (Is s) M0 M2 s l ns → Ext (Is s) M' M2 → Q' S'.toD M2) →
      ∀ p, M' p = none → sp_law_renamed 40 [.ref s, S.toD, .ref p, .ref w] (put M' p (.dk [])) Q' E' := by
    intro S M' Q' E' f J' hw h3 p hp
    have J2 := J'.new (o := .dk []) hp
    exact ⟨s, l, ns, S, p, w, 0, id, xs, rfl, J2.P, f.1, by have := f.2.1; omega, f.2.2, env0 put_same, by have := f.2.1; omega, fun x h => h, ws, at_lay hw hp, wx, w0, fun S' w1 w2 w3 => drawn_ls J2 fun M3 J3 e3 => h3 S' M3 ⟨w1, by rw [w2]; exact f.2.1, by rw [w3]; exact f.2.2⟩ J3 ((Ext.lay hp).trans e3)⟩
  have chd : ∀ (S : Se) (M' : Mp) (Q' : DK) (E' : EK), fine S → LS (Is s) M0 M' s l ns → M' w = some (.lst (xs.map D.str)) → (∀ (S' : Se) (M2 : Mp), fine S' → LS (Is s) M0 M2 s l ns → Ext (Is s) M' M2 → Q' S'.toD M2) → sp_law_changed [.ref s, S.toD, .ref w] M' Q' E' := by
    intro S M' Q' E' f J' hw h3
    exact ⟨s, l, ns, S, w, xs, rfl, J'.P, f, ws, hw, wx, fun S' f' => drawn_ls J' fun M3 J3 e3 => h3 S' M3 f' J3 e3⟩
  refine seq_split (fun τ M' => LS (Is s) M0 M' s l ns ∧ M' w = some (.lst (xs.map D.str)) ∧ M' na = some (.dk nv) ∧ M' fa = some (.dk kvs) ∧ ∃ S1, fine S1 ∧ τ = [some (.ref a0), some (.ref s), some (.ref w), some (.ref na), o4, some (.ref fa), some S.toD, some S1.toD, none, none, none, none, none, none, none]) ?_ ?_
  rotate_left
  · intro nx hnx
    walk_at "dl"
    exact ren S M7 _ _ f J7 W7 fun S1 M8 f1 J8 e8 => hnx _ _ ⟨J8, e8 _ _ ws W7, e8 _ _ nas N7, e8 _ _ fas F7, S1, f1, rfl⟩
  rintro τ M8 ⟨J8, W8, N8, F8, S1, f1, rfl⟩
  refine seq_split (fun τ M' => LS (Is s) M0 M' s l ns ∧ M' w = some (.lst (xs.map D.str)) ∧ M' na = some (.dk nv) ∧ M' fa = some (.dk kvs) ∧ ∃ S2, fine S2 ∧ τ = [some (.ref a0), some (.ref s), some (.ref w), some (.ref na), o4, some (.ref fa), some S.toD, some S1.toD, some S2.toD, none, none, none, none, none, none]) ?_ ?_
  rotate_left
  · intro nx hnx
    walk_at "dl"
    exact chd S M8 _ _ f J8 W8 fun S1 M8 f1 J8 e8 => hnx _ _ ⟨J8, e8 _ _ ws W8, e8 _ _ nas N8, e8 _ _ fas F8, S1, f1, rfl⟩
  rintro τ M9 ⟨J9, W9, N9, F9, S2, f2, rfl⟩
  refine seq_split (fun τ M' => LS (Is s) M0 M' s l ns ∧ M' na = some (.dk nv) ∧ M' fa = some (.dk kvs) ∧ ∃ (b : Addr) (Ss : List Se), Ss.length = 5 ∧ (∀ S, S ∈ Ss → fine S) ∧ Own (Is s) M0 M' s l b (.lst (Ss.map Se.toD)) ∧ τ = [some (.ref a0), some (.ref s), some (.ref w), some (.ref na), o4, some (.ref fa), some S.toD, some S1.toD, some S2.toD, some (.ref b), none, none, none, none, none]) ?_ ?_
  rotate_left
  · intro nx hnx
    walk_at "dl"
    refine chd S1 M9 _ _ f1 J9 W9 fun S3 M10 f3 J10 e10 => ?_
    refine ren S2 M10 _ _ f2 J10 (e10 _ _ ws W9) fun S4 M11 f4 J11 e11 => ?_
    refine ⟨by rw [sizeLine_eq]; omega, fun p hp => hnx _ _ ⟨J11.new hp, at_lay (e11 _ _ nas (e10 _ _ nas N9)) hp, at_lay (e11 _ _ fas (e10 _ _ fas F9)) hp, p, [S, S1, S2, S3, S4], rfl, fun T hT => ?_, .new J11 hp, rfl⟩⟩
    simp only [List.mem_cons, List.not_mem_nil, or_false] at hT
    rcases hT with rfl | rfl | rfl | rfl | rfl <;> assumption
  rintro τ M10 ⟨J10, N10, F10, b, Ss, ls, fs, O10, rfl⟩
  refine seq_split (fun τ M' => LS (Is s) M0 M' s l ns ∧ ∃ (Ss : List Se), Ss.length = 6 ∧ (∀ S, S ∈ Ss → fine S) ∧ Own (Is s) M0 M' s l b (.lst (Ss.map Se.toD)) ∧ τ = [some (.ref a0), some (.ref s), some (.ref w), some (.ref na), o4, some (.ref fa), some S.toD, some S1.toD, some S2.toD, some (.ref b), none, none, none, none, none]) ?_ ?_
  rotate_left
  · intro nx hnx
    walk_at "dl"
    simp only [metT, O10.a, true_and]
    refine J10.pick (by decide) (by decide) fun lv M11 l0 l1 J11 e11 => ⟨by rw [sizeLine_eq]; omega, ?_⟩
    refine met lv 1 M11 _ _ J11 (e11 _ _ nas N10) (e11 _ _ fas F10) l0 (by omega) fun S5 M12 f5 J12 e12 => ?_
    have O12 : Own (Is s) M0 M12 s l b (.lst (Ss.map Se.toD)) := ⟨e12 _ _ O10.ns (O10.ext e11).a, O10.z, O10.ns, O10.nl⟩
    simp only [appendM, O12.a]
    refine ⟨by rw [sizeLine_eq, List.length_map]; omega, hnx _ _ ⟨J12.set O12, Ss ++ [S5], by simp [ls], fun T hT => ?_, by rw [List.map_append]; exact O12.set, rfl⟩⟩
    rcases List.mem_append.mp hT with h | h
    · exact fs T h
    · rw [List.mem_singleton.mp h]; exact f5
  rintro τ M11 ⟨J11, Ss, ls, fs, O11, rfl⟩
  clear O10
  -- plains
  refine seq_split (fun τ M' => M' b = some (.lst (Ss.map Se.toD)) ∧ ∃ c, M' c = some (.lst (Ss.map fun S => (S.plain id 0).toD)) ∧ τ = [some (.ref a0), some (.ref s), some (.ref w), some (.ref na), o4, some (.ref fa), some S.toD, some S1.toD, some S2.toD, some (.ref b), some (.ref c), none, none, none, none]) ?_ ?_
  rotate_left
  · intro nx hnx
    walk_at "dl"
    simp only [itemsOf, keepOf, seqOf, O11.a]
    intro c hc
    have nbc : b ≠ c := by rintro rfl; rw [O11.a] at hc; cases hc
    refine dCL_inv (fun j M' => M' b = some (.lst (Ss.map Se.toD)) ∧ M' c = some (.lst ((Ss.take j).map fun S => (S.plain id 0).toD))) (fun j M' _ h => by rw [h.1]) ?_ ?_ ⟨at_lay O11.a hc, by simp [put_same]⟩
    · rintro j d M' nxt hd ⟨h1, h2⟩ hnx'
      have hj := (List.getElem?_eq_some_iff.mp hd).1
      rw [List.length_map] at hj
      rw [List.getElem?_map, List.getElem?_eq_getElem hj] at hd
      obtain rfl : d = Ss[j].toD := by simpa using hd.symm
      have fj := fs _ (List.getElem_mem hj)
      simp only [dYes, wipeD, if_true]
      walk_at "dl"
      intro q hq
      refine ⟨Ss[j], q, 0, id, rfl, fj.1, by have := fj.2.1; omega, by have := fj.2.1; omega, env0 put_same, ?_⟩
      simp only [at_lay h2 hq]
      have ncq : c ≠ q := by rintro rfl; rw [h2] at hq; cases hq
      refine ⟨by rw [sizeLine_eq]; simp; omega, hnx' _ ⟨by rw [put_ne nbc]; exact at_lay h1 hq, ?_⟩⟩
      rw [put_same, List.take_succ, List.getElem?_eq_getElem hj, Option.toList_some, List.map_append]
      rfl
    · rintro M' ⟨h1, h2⟩
      rw [List.length_map, List.take_length] at h2
      exact hnx _ _ ⟨h1, c, h2, rfl⟩
  rintro τ M12 ⟨hb12, c, hc12, rfl⟩
  refine seq_split (fun τ M' => Sub M12 M' ∧ ∃ p, M' p = some (.lst []) ∧ τ = [some (.ref a0), some (.ref s), some (.ref w), some (.ref na), o4, some (.ref fa), some S.toD, some S1.toD, some S2.toD, some (.ref b), some (.ref c), some (.ref p), none, none, none]) ?_ ?_
  rotate_left
  · intro nx hnx
    walk_at "dl"
    exact ⟨Nat.zero_le _, fun p hp => hnx _ _ ⟨sub_put hp, p, put_same, rfl⟩⟩
  rintro τ M13 ⟨s13, p, hp13, rfl⟩
  have pr : ∀ {i j : Int} {d : D}, d = .tup [.int i, .int j] → 0 ≤ i → i < 6 → 0 ≤ j → j < 6 → PairOk d := fun h h1 h2 h3 h4 => ⟨_, _, h, h1, h2, h3, h4⟩
  refine seq_split (fun τ M' => Sub M12 M' ∧ ∃ p ps o, M' p = some (.lst ps) ∧ ps.length ≤ 36 ∧ (∀ d, d ∈ ps → PairOk d) ∧ τ = [some (.ref a0), some (.ref s), some (.ref w), some (.ref na), o4, some (.ref fa), some S.toD, some S1.toD, some S2.toD, some (.ref b), some (.ref c), some (.ref p), o, none, none]) ?_ ?_
  rotate_left
  · intro nx hnx
    walk_at "dl"
    rw [lenG_at (s13 _ _ hb12), List.length_map, ls]
    refine ⟨by omega, by omega, ?_⟩
    refine dLoop_inv (fun i τ M' => Sub M12 M' ∧ ∃ p ps o, M' p = some (.lst ps) ∧ ps.length = 6 * i ∧ (∀ d, d ∈ ps → PairOk d) ∧ τ = [some (.ref a0), some (.ref s), some (.ref w), some (.ref na), o4, some (.ref fa), some S.toD, some S1.toD, some S2.toD, some (.ref b), some (.ref c), some (.ref p), o, none, none]) (fun _ _ _ _ _ => trivial) ?_ ?_ ⟨s13, p, [], _, hp13, rfl, (fun _ h => nomatch h), rfl⟩
    · rintro i d τ M' nxt hd ⟨s', p, ps, o, hp, lp, hps, rfl⟩ hnx'
      obtain ⟨hi, rfl⟩ := rng_at hd
      have hi6 : i < 6 := hi
      walk_at "dl"
      rw [lenG_at (s' _ _ hb12), List.length_map, ls]
      refine ⟨by omega, by omega, fun q hq => ?_⟩
      refine dCL_pure (fun z : Int × Int => D.tup [.int z.1, .int z.2]) ((List.range 6).map fun (k : Nat) => some ((i : Int), (k : Int))) (by simp) (by simp) (fun _ => trivial) (fun m d o' ys k1 k2 hd2 ho h1 h2 => ?_) ?_
      · obtain ⟨hm, rfl⟩ := rng_at hd2
        have hm6 : m < 6 := hm
        rw [List.getElem?_map, List.getElem?_range hm6] at ho
        obtain rfl : o' = some ((i : Int), (m : Int)) := by simpa using ho.symm
        simp only [dYes, wipeD, if_true]
        walk_at "dl"
        exact ⟨by rw [sizeLine_eq]; simp, h1 _ rfl⟩
      · have hp2 := at_lay (o := .lst (((((List.range 6).map fun (k : Nat) => some ((i : Int), (k : Int))).filterMap id).map fun z : Int × Int => D.tup [.int z.1, .int z.2]))) hp hq
        simp only [addD, hp2, put_same]
        have e6 : ((((List.range 6).map fun (k : Nat) => some ((i : Int), (k : Int))).filterMap id).map fun z : Int × Int => D.tup [.int z.1, .int z.2]) = (List.range 6).map fun (k : Nat) => D.tup [.int i, .int (k : Int)] := by
          rw [List.filterMap_map, List.map_filterMap]
          simp
        rw [e6]
        refine ⟨by rw [sizeLine_eq]; simp; omega, fun r hr => hnx' _ _ ⟨(s'.put hq).put hr, r, _, _, put_same, by simp; omega, fun d hd => ?_, rfl⟩⟩
        rcases List.mem_append.mp hd with h | h
        · exact hps d h
        · obtain ⟨m, hm, rfl⟩ := List.mem_map.mp h
          have := List.mem_range.mp hm
          exact pr rfl (by omega) (by omega) (by omega) (by omega)
    · rintro τ M' ⟨s', p, ps, o, hp, lp, hps, rfl⟩
      rw [len_rng] at lp
      exact hnx _ _ ⟨s', p, ps, o, hp, by have : (6 : Int).toNat = 6 := rfl; omega, hps, rfl⟩
  rintro τ M14 ⟨s14, p, ps, o12, hp14, lp, hps, rfl⟩
  refine seq_split (fun τ M' => True) (fun τ M' _ => by walk_at "dl"; exact fin M') ?_
  intro nx hnx
  walk_at "dl"
  refine ⟨by rw [sizeLine_eq]; omega, by rw [sizeLine_eq]; omega, by rw [sizeLine_eq]; omega, by rw [sizeLine_eq]; omega, fun q hq => ?_⟩
  have hp15 := at_lay (o := .lst [.tup [.int 0, .int 1], .tup [.int 2, .int 0], .tup [.int 3, .int 1]]) hp14 hq
  simp only [addD, hp15, put_same]
  refine ⟨by rw [sizeLine_eq]; simp; omega, fun r hr => ?_⟩
  simp only [itemsOf, keepOf, seqOf, put_same]
  have s15 := (s14.put hq (o := .lst [.tup [.int 0, .int 1], .tup [.int 2, .int 0], .tup [.int 3, .int 1]])).put hr (o := .lst (ps ++ [.tup [.int 0, .int 1], .tup [.int 2, .int 0], .tup [.int 3, .int 1]]))
  have h15 : put (put M14 q (.lst [.tup [.int 0, .int 1], .tup [.int 2, .int 0], .tup [.int 3, .int 1]])) r (.lst (ps ++ [.tup [.int 0, .int 1], .tup [.int 2, .int 0], .tup [.int 3, .int 1]])) r = some (.lst (ps ++ [.tup [.int 0, .int 1], .tup [.int 2, .int 0], .tup [.int 3, .int 1]])) := put_same
  generalize put (put M14 q (.lst [.tup [.int 0, .int 1], .tup [.int 2, .int 0], .tup [.int 3, .int 1]])) r (.lst (ps ++ [.tup [.int 0, .int 1], .tup [.int 2, .int 0], .tup [.int 3, .int 1]])) = M15 at s15 h15 ⊢
  have all : ∀ d, d ∈ ps ++ [.tup [.int 0, .int 1], .tup [.int 2, .int 0], .tup [.int 3, .int 1]] → PairOk d := fun d hd => by
    rcases List.mem_append.mp hd with h | h
    · exact hps d h
    · simp only [List.mem_cons, List.not_mem_nil, or_false] at h
      rcases h with rfl | rfl | rfl <;> exact pr rfl (by decide) (by decide) (by decide) (by decide)
  generalize ps ++ [.tup [.int 0, .int 1], .tup [.int 2, .int 0], .tup [.int 3, .int 1]] = its at h15 all ⊢
  refine dLoop_inv (fun i τ M' => M15 = M' ∧ ∃ o, τ = [some (.ref a0), some (.ref s), some (.ref w), some (.ref na), o4, some (.ref fa), some S.toD, some S1.toD, some S2.toD, some (.ref b), some (.ref c), some (.ref p), o12, o, none]) (fun i τ M' _ h => by rw [← h.1, h15]) ?_ (fun _ _ _ => hnx _ _ trivial) ⟨rfl, _, rfl⟩
  rintro i d τ M' nxt hd ⟨rfl, o, rfl⟩ hnx'
  obtain ⟨x, y, rfl, x0, x1, y0, y1⟩ := all d (List.mem_of_getElem? hd)
  obtain ⟨x, rfl⟩ : ∃ k : Nat, x = k := ⟨x.toNat, by omega⟩
  obtain ⟨y, rfl⟩ : ∃ k : Nat, y = k := ⟨y.toNat, by omega⟩
  have hx : x < Ss.length := by omega
  have hy : y < Ss.length := by omega
  have gb : ∀ (z : Nat) (hz : z < Ss.length) (Q : DK), Q Ss[z].toD M15 → ixG (.ref b) (.int z) M15 Q := fun z hz Q h => by
    rw [ixG_at (s15 _ _ hb12) (atI_nat (by rw [List.getElem?_map, List.getElem?_eq_getElem hz]; rfl))]; exact h
  have gc : ∀ (z : Nat) (hz : z < Ss.length) (Q : DK), Q (Ss[z].plain id 0).toD M15 → ixG (.ref c) (.int z) M15 Q := fun z hz Q h => by
    rw [ixG_at (s15 _ _ hc12) (atI_nat (by rw [List.getElem?_map, List.getElem?_eq_getElem hz]; rfl))]; exact h
  have fx := fs _ (List.getElem_mem hx)
  have fy := fs _ (List.getElem_mem hy)
  walk_at "dl"
  refine gb x hx _ (gb y hy _ ⟨Ss[x], Ss[y], rfl, fx.1, fy.1, fx.2.1, fun r hr => ?_⟩)
  simp only [ixG_t0, ixG_t1]
  refine gc x hx _ (gc y hy _ (eqD_plain fx fy fun r' hr' => ?_))
  obtain rfl : r = r' := by rw [Bool.eq_iff_iff, hr, hr']
  refine ⟨.bl r, rfl, by simp [okS, ok], ?_⟩
  simp
  exact hnx' _ _ ⟨rfl, _, rfl⟩
end K06

set_option maxHeartbeats 4000000
namespace K06
open PySem L2 DL
theorem fnOk_not {P : Program} {w : World} {K : PySem.W.Frag} {mg : Str → Option Value} {base : Heap} {k : Nat} {f : Addr} {fd : FuncData} {ps : List Str} {sp : DSp} (h : ∀ ds M Q E, ¬ sp ds M Q E) : FnOk P w K mg base (L2.CX P w) k f fd ps (liftSp K sp) :=
  ⟨fun vs H Q E ⟨ds, M, Qd, Ed, q, r⟩ => (h _ _ _ _ q).elim, fun A outer s H args us vs Q E hr he hb hv ⟨ds, M, Qd, Ed, q, r⟩ => (h _ _ _ _ q).elim⟩
theorem len_items_start : ∀ ds M Q E, sp_items_start ds M Q E → ds.length = P_items_start.length := fun ds M Q E h => by
  (repeat (obtain ⟨_, h⟩ := h))
  all_goals (subst_vars; rfl)
theorem len_inner_end : ∀ ds M Q E, sp_inner_end ds M Q E → ds.length = P_inner_end.length := fun ds M Q E h => by
  (repeat (obtain ⟨_, h⟩ := h))
  all_goals (subst_vars; rfl)
theorem len_same_words : ∀ ds M Q E, sp_same_words ds M Q E → ds.length = P_same_words.length := fun ds M Q E h => by
  (repeat (obtain ⟨_, h⟩ := h))
  all_goals (subst_vars; rfl)
theorem len_alike_expressions {n : Nat} : ∀ ds M Q E, sp_alike_expressions (n + 1) ds M Q E → ds.length = P_alike_expressions.length := fun ds M Q E h => by
  (repeat (obtain ⟨_, h⟩ := h))
  all_goals (subst_vars; rfl)
theorem len_alike_parts {n : Nat} : ∀ ds M Q E, sp_alike_parts (n + 1) ds M Q E → ds.length = P_alike_parts.length := fun ds M Q E h => by
  (repeat (obtain ⟨_, h⟩ := h))
  all_goals (subst_vars; rfl)
theorem len_are_alike : ∀ ds M Q E, sp_are_alike ds M Q E → ds.length = P_are_alike.length := fun ds M Q E h => by
  (repeat (obtain ⟨_, h⟩ := h))
  all_goals (subst_vars; rfl)
theorem len_law_pick : ∀ ds M Q E, sp_law_pick ds M Q E → ds.length = P_law_pick.length := fun ds M Q E h => by
  (repeat (obtain ⟨_, h⟩ := h))
  all_goals (subst_vars; rfl)
theorem len_law_same {n : Nat} : ∀ ds M Q E, sp_law_same (n + 1) ds M Q E → ds.length = P_law_same.length := fun ds M Q E h => by
  (repeat (obtain ⟨_, h⟩ := h))
  all_goals (subst_vars; rfl)
theorem len_law_number : ∀ ds M Q E, sp_law_number ds M Q E → ds.length = P_law_number.length := fun ds M Q E h => by
  (repeat (obtain ⟨_, h⟩ := h))
  all_goals (subst_vars; rfl)
theorem len_law_expression {n : Nat} : ∀ ds M Q E, sp_law_expression (n + 1) ds M Q E → ds.length = P_law_expression.length := fun ds M Q E h => by
  (repeat (obtain ⟨_, h⟩ := h))
  all_goals (subst_vars; rfl)
theorem len_law_new : ∀ ds M Q E, sp_law_new ds M Q E → ds.length = P_law_new.length := fun ds M Q E h => by
  (repeat (obtain ⟨_, h⟩ := h))
  all_goals (subst_vars; rfl)
theorem len_law_names : ∀ ds M Q E, sp_law_names ds M Q E → ds.length = P_law_names.length := fun ds M Q E h => by
  (repeat (obtain ⟨_, h⟩ := h))
  all_goals (subst_vars; rfl)
theorem len_law_with : ∀ ds M Q E, sp_law_with ds M Q E → ds.length = P_law_with.length := fun ds M Q E h => by
  (repeat (obtain ⟨_, h⟩ := h))
  all_goals (subst_vars; rfl)
theorem len_law_met {n : Nat} : ∀ ds M Q E, sp_law_met (n + 1) ds M Q E → ds.length = P_law_met.length := fun ds M Q E h => by
  (repeat (obtain ⟨_, h⟩ := h))
  all_goals (subst_vars; rfl)
theorem len_law_items : ∀ ds M Q E, sp_law_items ds M Q E → ds.length = P_law_items.length := fun ds M Q E h => by
  (repeat (obtain ⟨_, h⟩ := h))
  all_goals (subst_vars; rfl)
theorem len_law_rebuilt : ∀ ds M Q E, sp_law_rebuilt ds M Q E → ds.length = P_law_rebuilt.length := fun ds M Q E h => by
  (repeat (obtain ⟨_, h⟩ := h))
  all_goals (subst_vars; rfl)
theorem len_law_words {n : Nat} : ∀ ds M Q E, sp_law_words (n + 1) ds M Q E → ds.length = P_law_words.length := fun ds M Q E h => by
  (repeat (obtain ⟨_, h⟩ := h))
  all_goals (subst_vars; rfl)
theorem len_law_free {n : Nat} : ∀ ds M Q E, sp_law_free (n + 1) ds M Q E → ds.length = P_law_free.length := fun ds M Q E h => by
  (repeat (obtain ⟨_, h⟩ := h))
  all_goals (subst_vars; rfl)
theorem len_law_put {n : Nat} : ∀ ds M Q E, sp_law_put (n + 1) ds M Q E → ds.length = P_law_put.length := fun ds M Q E h => by
  (repeat (obtain ⟨_, h⟩ := h))
  all_goals (subst_vars; rfl)
theorem len_law_tower : ∀ ds M Q E, sp_law_tower ds M Q E → ds.length = P_law_tower.length := fun ds M Q E h => by
  (repeat (obtain ⟨_, h⟩ := h))
  all_goals (subst_vars; rfl)
theorem len_law_filled {n : Nat} : ∀ ds M Q E, sp_law_filled (n + 1) ds M Q E → ds.length = P_law_filled.length := fun ds M Q E h => by
  (repeat (obtain ⟨_, h⟩ := h))
  all_goals (subst_vars; rfl)
theorem len_law_plain {n : Nat} : ∀ ds M Q E, sp_law_plain (n + 1) ds M Q E → ds.length = P_law_plain.length := fun ds M Q E h => by
  (repeat (obtain ⟨_, h⟩ := h))
  all_goals (subst_vars; rfl)
theorem len_law_renamed {n : Nat} : ∀ ds M Q E, sp_law_renamed (n + 1) ds M Q E → ds.length = P_law_renamed.length := fun ds M Q E h => by
  (repeat (obtain ⟨_, h⟩ := h))
  all_goals (subst_vars; rfl)
theorem len_law_uses_in {n : Nat} : ∀ ds M Q E, sp_law_uses_in (n + 1) ds M Q E → ds.length = P_law_uses_in.length := fun ds M Q E h => by
  (repeat (obtain ⟨_, h⟩ := h))
  all_goals (subst_vars; rfl)
theorem len_law_uses {n : Nat} : ∀ ds M Q E, sp_law_uses (n + 1) ds M Q E → ds.length = P_law_uses.length := fun ds M Q E h => by
  (repeat (obtain ⟨_, h⟩ := h))
  all_goals (subst_vars; rfl)
theorem len_law_fits : ∀ ds M Q E, sp_law_fits ds M Q E → ds.length = P_law_fits.length := fun ds M Q E h => by
  (repeat (obtain ⟨_, h⟩ := h))
  all_goals (subst_vars; rfl)
theorem len_law_leaves {n : Nat} : ∀ ds M Q E, sp_law_leaves (n + 1) ds M Q E → ds.length = P_law_leaves.length := fun ds M Q E h => by
  (repeat (obtain ⟨_, h⟩ := h))
  all_goals (subst_vars; rfl)
theorem len_law_other_leaf : ∀ ds M Q E, sp_law_other_leaf ds M Q E → ds.length = P_law_other_leaf.length := fun ds M Q E h => by
  (repeat (obtain ⟨_, h⟩ := h))
  all_goals (subst_vars; rfl)
theorem len_law_changed : ∀ ds M Q E, sp_law_changed ds M Q E → ds.length = P_law_changed.length := fun ds M Q E h => by
  (repeat (obtain ⟨_, h⟩ := h))
  all_goals (subst_vars; rfl)
theorem len_law {K : PySem.W.Frag} : ∀ ds M Q E, sp_law K ds M Q E → ds.length = P_law.length := fun ds M Q E h => by
  (repeat (obtain ⟨_, h⟩ := h))
  all_goals (subst_vars; rfl)
theorem all_mk {l : PySem.W.OpenLaw} {w : World} {K : PySem.W.Frag} {h : Heap} {mg : Str → Option Value} {fa BOUND_KINDS f1 f2 f3 f4 f5 f6 f7 f8 f9 f10 f11 f12 f13 f14 f15 f16 f17 f18 f19 f20 f21 f22 f23 f24 f25 f26 f27 f28 f29 f30 f31 : Addr} (X : K.In h) (G : h.Ns mainGlobals mg) (hfa : mg "law" = some (.ref fa))
    {od1 an1 od2 an2 od3 an3 od4 an4 od5 an5 od6 an6 od7 an7 od8 an8 od9 an9 od10 an10 od11 an11 od12 an12 od13 an13 od14 an14 od15 an15 od16 an16 od17 an17 od18 an18 od19 an19 od20 an20 od21 an21 od22 an22 od23 an23 od24 an24 od25 an25 od26 an26 od27 an27 od28 an28 od29 an29 od30 an30 od31 an31 : Option Addr} {sl1 sl2 sl3 sl4 sl5 sl6 sl7 sl8 sl9 sl10 sl11 sl12 sl13 sl14 sl15 sl16 sl17 sl18 sl19 sl20 sl21 sl22 sl23 sl24 sl25 sl26 sl27 sl28 sl29 sl30 sl31 : Array (Option Value)} {oc1 kV1 dc1 pm1 cd1 ct1 oc2 kV2 dc2 pm2 cd2 ct2 oc3 kV3 dc3 pm3 cd3 ct3 oc4 kV4 dc4 pm4 cd4 ct4 oc5 kV5 dc5 pm5 cd5 ct5 oc6 kV6 dc6 pm6 cd6 ct6 oc7 kV7 dc7 pm7 cd7 ct7 oc8 kV8 dc8 pm8 cd8 ct8 oc9 kV9 dc9 pm9 cd9 ct9 oc10 kV10 dc10 pm10 cd10 ct10 oc11 kV11 dc11 pm11 cd11 ct11 oc12 kV12 dc12 pm12 cd12 ct12 oc13 kV13 dc13 pm13 cd13 ct13 oc14 kV14 dc14 pm14 cd14 ct14 oc15 kV15 dc15 pm15 cd15 ct15 oc16 kV16 dc16 pm16 cd16 ct16 oc17 kV17 dc17 pm17 cd17 ct17 oc18 kV18 dc18 pm18 cd18 ct18 oc19 kV19 dc19 pm19 cd19 ct19 oc20 kV20 dc20 pm20 cd20 ct20 oc21 kV21 dc21 pm21 cd21 ct21 oc22 kV22 dc22 pm22 cd22 ct22 oc23 kV23 dc23 pm23 cd23 ct23 oc24 kV24 dc24 pm24 cd24 ct24 oc25 kV25 dc25 pm25 cd25 ct25 oc26 kV26 dc26 pm26 cd26 ct26 oc27 kV27 dc27 pm27 cd27 ct27 oc28 kV28 dc28 pm28 cd28 ct28 oc29 kV29 dc29 pm29 cd29 ct29 oc30 kV30 dc30 pm30 cd30 ct30 oc31 kV31 dc31 pm31 cd31 ct31 : Value}
    {esBOUND_KINDS : Array DictEntry} {ndBOUND_KINDS : Nat} {vyBOUND_KINDS0 vyBOUND_KINDS1 vyBOUND_KINDS2 vyBOUND_KINDS3 vyBOUND_KINDS4 vyBOUND_KINDS5 : Value}
    (aBOUND_KINDS : PySem.W.nsIn K mainGlobals "BOUND_KINDS" = some (some (.ref BOUND_KINDS)))
    (zall : PySem.W.nsIn K mainGlobals "all" = some none)
    (zbool : PySem.W.nsIn K mainGlobals "bool" = some none)
    (zint : PySem.W.nsIn K mainGlobals "int" = some none)
    (zisinstance : PySem.W.nsIn K mainGlobals "isinstance" = some none)
    (zlen : PySem.W.nsIn K mainGlobals "len" = some none)
    (zlist : PySem.W.nsIn K mainGlobals "list" = some none)
    (zmax : PySem.W.nsIn K mainGlobals "max" = some none)
    (zmin : PySem.W.nsIn K mainGlobals "min" = some none)
    (zrange : PySem.W.nsIn K mainGlobals "range" = some none)
    (zsorted : PySem.W.nsIn K mainGlobals "sorted" = some none)
    (zstr : PySem.W.nsIn K mainGlobals "str" = some none)
    (ztuple : PySem.W.nsIn K mainGlobals "tuple" = some none)
    (dlBOUND_KINDS : K.lookup BOUND_KINDS = some ⟨.type "dict", none, .dict esBOUND_KINDS ndBOUND_KINDS, #[]⟩)
    (dkBOUND_KINDS : PySem.W.KeysLit w.params esBOUND_KINDS.toList)
    (dsBOUND_KINDS : (BOUND_KINDS == sysModules) = false)
    (dyBOUND_KINDS0 : PySem.W.nsIn K BOUND_KINDS "all" = some (some vyBOUND_KINDS0))
    (dyBOUND_KINDS1 : PySem.W.nsIn K BOUND_KINDS "some" = some (some vyBOUND_KINDS1))
    (dyBOUND_KINDS2 : PySem.W.nsIn K BOUND_KINDS "allbelow" = some (some vyBOUND_KINDS2))
    (dyBOUND_KINDS3 : PySem.W.nsIn K BOUND_KINDS "somebelow" = some (some vyBOUND_KINDS3))
    (dyBOUND_KINDS4 : PySem.W.nsIn K BOUND_KINDS "allrow" = some (some vyBOUND_KINDS4))
    (dyBOUND_KINDS5 : PySem.W.nsIn K BOUND_KINDS "somerow" = some (some vyBOUND_KINDS5))
    (dnBOUND_KINDS0 : PySem.W.nsIn K BOUND_KINDS "is" = some none)
    (dnBOUND_KINDS1 : PySem.W.nsIn K BOUND_KINDS "and" = some none)
    (dnBOUND_KINDS2 : PySem.W.nsIn K BOUND_KINDS "if" = some none)
    (a1 : PySem.W.nsIn K mainGlobals "items_start" = some (some (.ref f1)))
    (l1 : K.lookup f1 = some ⟨oc1, od1, .func (PySem.W.fnOf "items_start" "items_start" (defArgs s_items_start) (defBody s_items_start) (defScope s_items_start) .none kV1 dc1 pm1 an1 cd1 ct1), sl1⟩)
    (c1 : PySem.W.codeIn K cd1 "items_start" = true)
    (k1 : PySem.W.keepIn K (.ref f1) = true)
    (a2 : PySem.W.nsIn K mainGlobals "inner_end" = some (some (.ref f2)))
    (l2 : K.lookup f2 = some ⟨oc2, od2, .func (PySem.W.fnOf "inner_end" "inner_end" (defArgs s_inner_end) (defBody s_inner_end) (defScope s_inner_end) .none kV2 dc2 pm2 an2 cd2 ct2), sl2⟩)
    (c2 : PySem.W.codeIn K cd2 "inner_end" = true)
    (k2 : PySem.W.keepIn K (.ref f2) = true)
    (a3 : PySem.W.nsIn K mainGlobals "same_words" = some (some (.ref f3)))
    (l3 : K.lookup f3 = some ⟨oc3, od3, .func (PySem.W.fnOf "same_words" "same_words" (defArgs s_same_words) (defBody s_same_words) (defScope s_same_words) .none kV3 dc3 pm3 an3 cd3 ct3), sl3⟩)
    (c3 : PySem.W.codeIn K cd3 "same_words" = true)
    (k3 : PySem.W.keepIn K (.ref f3) = true)
    (a4 : PySem.W.nsIn K mainGlobals "alike_expressions" = some (some (.ref f4)))
    (l4 : K.lookup f4 = some ⟨oc4, od4, .func (PySem.W.fnOf "alike_expressions" "alike_expressions" (defArgs s_alike_expressions) (defBody s_alike_expressions) (defScope s_alike_expressions) .none kV4 dc4 pm4 an4 cd4 ct4), sl4⟩)
    (c4 : PySem.W.codeIn K cd4 "alike_expressions" = true)
    (k4 : PySem.W.keepIn K (.ref f4) = true)
    (a5 : PySem.W.nsIn K mainGlobals "alike_parts" = some (some (.ref f5)))
    (l5 : K.lookup f5 = some ⟨oc5, od5, .func (PySem.W.fnOf "alike_parts" "alike_parts" (defArgs s_alike_parts) (defBody s_alike_parts) (defScope s_alike_parts) .none kV5 dc5 pm5 an5 cd5 ct5), sl5⟩)
    (c5 : PySem.W.codeIn K cd5 "alike_parts" = true)
    (k5 : PySem.W.keepIn K (.ref f5) = true)
    (a6 : PySem.W.nsIn K mainGlobals "are_alike" = some (some (.ref f6)))
    (l6 : K.lookup f6 = some ⟨oc6, od6, .func (PySem.W.fnOf "are_alike" "are_alike" (defArgs s_are_alike) (defBody s_are_alike) (defScope s_are_alike) .none kV6 dc6 pm6 an6 cd6 ct6), sl6⟩)
    (c6 : PySem.W.codeIn K cd6 "are_alike" = true)
    (k6 : PySem.W.keepIn K (.ref f6) = true)
    (a7 : PySem.W.nsIn K mainGlobals "_law_start" = some (some (.ref f7)))
    (l7 : K.lookup f7 = some ⟨oc7, od7, .func (PySem.W.fnOf "_law_start" "_law_start" (defArgs s_law_start) (defBody s_law_start) (defScope s_law_start) .none kV7 dc7 pm7 an7 cd7 ct7), sl7⟩)
    (c7 : PySem.W.codeIn K cd7 "_law_start" = true)
    (k7 : PySem.W.keepIn K (.ref f7) = true)
    (a8 : PySem.W.nsIn K mainGlobals "_law_pick" = some (some (.ref f8)))
    (l8 : K.lookup f8 = some ⟨oc8, od8, .func (PySem.W.fnOf "_law_pick" "_law_pick" (defArgs s_law_pick) (defBody s_law_pick) (defScope s_law_pick) .none kV8 dc8 pm8 an8 cd8 ct8), sl8⟩)
    (c8 : PySem.W.codeIn K cd8 "_law_pick" = true)
    (k8 : PySem.W.keepIn K (.ref f8) = true)
    (a9 : PySem.W.nsIn K mainGlobals "_law_same" = some (some (.ref f9)))
    (l9 : K.lookup f9 = some ⟨oc9, od9, .func (PySem.W.fnOf "_law_same" "_law_same" (defArgs s_law_same) (defBody s_law_same) (defScope s_law_same) .none kV9 dc9 pm9 an9 cd9 ct9), sl9⟩)
    (c9 : PySem.W.codeIn K cd9 "_law_same" = true)
    (k9 : PySem.W.keepIn K (.ref f9) = true)
    (a10 : PySem.W.nsIn K mainGlobals "_law_number" = some (some (.ref f10)))
    (l10 : K.lookup f10 = some ⟨oc10, od10, .func (PySem.W.fnOf "_law_number" "_law_number" (defArgs s_law_number) (defBody s_law_number) (defScope s_law_number) .none kV10 dc10 pm10 an10 cd10 ct10), sl10⟩)
    (c10 : PySem.W.codeIn K cd10 "_law_number" = true)
    (k10 : PySem.W.keepIn K (.ref f10) = true)
    (a11 : PySem.W.nsIn K mainGlobals "_law_expression" = some (some (.ref f11)))
    (l11 : K.lookup f11 = some ⟨oc11, od11, .func (PySem.W.fnOf "_law_expression" "_law_expression" (defArgs s_law_expression) (defBody s_law_expression) (defScope s_law_expression) .none kV11 dc11 pm11 an11 cd11 ct11), sl11⟩)
    (c11 : PySem.W.codeIn K cd11 "_law_expression" = true)
    (k11 : PySem.W.keepIn K (.ref f11) = true)
    (a12 : PySem.W.nsIn K mainGlobals "_law_new" = some (some (.ref f12)))
    (l12 : K.lookup f12 = some ⟨oc12, od12, .func (PySem.W.fnOf "_law_new" "_law_new" (defArgs s_law_new) (defBody s_law_new) (defScope s_law_new) .none kV12 dc12 pm12 an12 cd12 ct12), sl12⟩)
    (c12 : PySem.W.codeIn K cd12 "_law_new" = true)
    (k12 : PySem.W.keepIn K (.ref f12) = true)
    (a13 : PySem.W.nsIn K mainGlobals "_law_names" = some (some (.ref f13)))
    (l13 : K.lookup f13 = some ⟨oc13, od13, .func (PySem.W.fnOf "_law_names" "_law_names" (defArgs s_law_names) (defBody s_law_names) (defScope s_law_names) .none kV13 dc13 pm13 an13 cd13 ct13), sl13⟩)
    (c13 : PySem.W.codeIn K cd13 "_law_names" = true)
    (k13 : PySem.W.keepIn K (.ref f13) = true)
    (a14 : PySem.W.nsIn K mainGlobals "_law_with" = some (some (.ref f14)))
    (l14 : K.lookup f14 = some ⟨oc14, od14, .func (PySem.W.fnOf "_law_with" "_law_with" (defArgs s_law_with) (defBody s_law_with) (defScope s_law_with) .none kV14 dc14 pm14 an14 cd14 ct14), sl14⟩)
    (c14 : PySem.W.codeIn K cd14 "_law_with" = true)
    (k14 : PySem.W.keepIn K (.ref f14) = true)
    (a15 : PySem.W.nsIn K mainGlobals "_law_met" = some (some (.ref f15)))
    (l15 : K.lookup f15 = some ⟨oc15, od15, .func (PySem.W.fnOf "_law_met" "_law_met" (defArgs s_law_met) (defBody s_law_met) (defScope s_law_met) .none kV15 dc15 pm15 an15 cd15 ct15), sl15⟩)
    (c15 : PySem.W.codeIn K cd15 "_law_met" = true)
    (k15 : PySem.W.keepIn K (.ref f15) = true)
    (a16 : PySem.W.nsIn K mainGlobals "_law_items" = some (some (.ref f16)))
    (l16 : K.lookup f16 = some ⟨oc16, od16, .func (PySem.W.fnOf "_law_items" "_law_items" (defArgs s_law_items) (defBody s_law_items) (defScope s_law_items) .none kV16 dc16 pm16 an16 cd16 ct16), sl16⟩)
    (c16 : PySem.W.codeIn K cd16 "_law_items" = true)
    (k16 : PySem.W.keepIn K (.ref f16) = true)
    (a17 : PySem.W.nsIn K mainGlobals "_law_rebuilt" = some (some (.ref f17)))
    (l17 : K.lookup f17 = some ⟨oc17, od17, .func (PySem.W.fnOf "_law_rebuilt" "_law_rebuilt" (defArgs s_law_rebuilt) (defBody s_law_rebuilt) (defScope s_law_rebuilt) .none kV17 dc17 pm17 an17 cd17 ct17), sl17⟩)
    (c17 : PySem.W.codeIn K cd17 "_law_rebuilt" = true)
    (k17 : PySem.W.keepIn K (.ref f17) = true)
    (a18 : PySem.W.nsIn K mainGlobals "_law_words" = some (some (.ref f18)))
    (l18 : K.lookup f18 = some ⟨oc18, od18, .func (PySem.W.fnOf "_law_words" "_law_words" (defArgs s_law_words) (defBody s_law_words) (defScope s_law_words) .none kV18 dc18 pm18 an18 cd18 ct18), sl18⟩)
    (c18 : PySem.W.codeIn K cd18 "_law_words" = true)
    (k18 : PySem.W.keepIn K (.ref f18) = true)
    (a19 : PySem.W.nsIn K mainGlobals "_law_free" = some (some (.ref f19)))
    (l19 : K.lookup f19 = some ⟨oc19, od19, .func (PySem.W.fnOf "_law_free" "_law_free" (defArgs s_law_free) (defBody s_law_free) (defScope s_law_free) .none kV19 dc19 pm19 an19 cd19 ct19), sl19⟩)
    (c19 : PySem.W.codeIn K cd19 "_law_free" = true)
    (k19 : PySem.W.keepIn K (.ref f19) = true)
    (a20 : PySem.W.nsIn K mainGlobals "_law_put" = some (some (.ref f20)))
    (l20 : K.lookup f20 = some ⟨oc20, od20, .func (PySem.W.fnOf "_law_put" "_law_put" (defArgs s_law_put) (defBody s_law_put) (defScope s_law_put) .none kV20 dc20 pm20 an20 cd20 ct20), sl20⟩)
    (c20 : PySem.W.codeIn K cd20 "_law_put" = true)
    (k20 : PySem.W.keepIn K (.ref f20) = true)
    (a21 : PySem.W.nsIn K mainGlobals "_law_tower" = some (some (.ref f21)))
    (l21 : K.lookup f21 = some ⟨oc21, od21, .func (PySem.W.fnOf "_law_tower" "_law_tower" (defArgs s_law_tower) (defBody s_law_tower) (defScope s_law_tower) .none kV21 dc21 pm21 an21 cd21 ct21), sl21⟩)
    (c21 : PySem.W.codeIn K cd21 "_law_tower" = true)
    (k21 : PySem.W.keepIn K (.ref f21) = true)
    (a22 : PySem.W.nsIn K mainGlobals "_law_filled" = some (some (.ref f22)))
    (l22 : K.lookup f22 = some ⟨oc22, od22, .func (PySem.W.fnOf "_law_filled" "_law_filled" (defArgs s_law_filled) (defBody s_law_filled) (defScope s_law_filled) .none kV22 dc22 pm22 an22 cd22 ct22), sl22⟩)
    (c22 : PySem.W.codeIn K cd22 "_law_filled" = true)
    (k22 : PySem.W.keepIn K (.ref f22) = true)
    (a23 : PySem.W.nsIn K mainGlobals "_law_plain" = some (some (.ref f23)))
    (l23 : K.lookup f23 = some ⟨oc23, od23, .func (PySem.W.fnOf "_law_plain" "_law_plain" (defArgs s_law_plain) (defBody s_law_plain) (defScope s_law_plain) .none kV23 dc23 pm23 an23 cd23 ct23), sl23⟩)
    (c23 : PySem.W.codeIn K cd23 "_law_plain" = true)
    (k23 : PySem.W.keepIn K (.ref f23) = true)
    (a24 : PySem.W.nsIn K mainGlobals "_law_renamed" = some (some (.ref f24)))
    (l24 : K.lookup f24 = some ⟨oc24, od24, .func (PySem.W.fnOf "_law_renamed" "_law_renamed" (defArgs s_law_renamed) (defBody s_law_renamed) (defScope s_law_renamed) .none kV24 dc24 pm24 an24 cd24 ct24), sl24⟩)
    (c24 : PySem.W.codeIn K cd24 "_law_renamed" = true)
    (k24 : PySem.W.keepIn K (.ref f24) = true)
    (a25 : PySem.W.nsIn K mainGlobals "_law_uses_in" = some (some (.ref f25)))
    (l25 : K.lookup f25 = some ⟨oc25, od25, .func (PySem.W.fnOf "_law_uses_in" "_law_uses_in" (defArgs s_law_uses_in) (defBody s_law_uses_in) (defScope s_law_uses_in) .none kV25 dc25 pm25 an25 cd25 ct25), sl25⟩)
    (c25 : PySem.W.codeIn K cd25 "_law_uses_in" = true)
    (k25 : PySem.W.keepIn K (.ref f25) = true)
    (a26 : PySem.W.nsIn K mainGlobals "_law_uses" = some (some (.ref f26)))
    (l26 : K.lookup f26 = some ⟨oc26, od26, .func (PySem.W.fnOf "_law_uses" "_law_uses" (defArgs s_law_uses) (defBody s_law_uses) (defScope s_law_uses) .none kV26 dc26 pm26 an26 cd26 ct26), sl26⟩)
    (c26 : PySem.W.codeIn K cd26 "_law_uses" = true)
    (k26 : PySem.W.keepIn K (.ref f26) = true)
    (a27 : PySem.W.nsIn K mainGlobals "_law_fits" = some (some (.ref f27)))
    (l27 : K.lookup f27 = some ⟨oc27, od27, .func (PySem.W.fnOf "_law_fits" "_law_fits" (defArgs s_law_fits) (defBody s_law_fits) (defScope s_law_fits) .none kV27 dc27 pm27 an27 cd27 ct27), sl27⟩)
    (c27 : PySem.W.codeIn K cd27 "_law_fits" = true)
    (k27 : PySem.W.keepIn K (.ref f27) = true)
    (a28 : PySem.W.nsIn K mainGlobals "_law_leaves" = some (some (.ref f28)))
    (l28 : K.lookup f28 = some ⟨oc28, od28, .func (PySem.W.fnOf "_law_leaves" "_law_leaves" (defArgs s_law_leaves) (defBody s_law_leaves) (defScope s_law_leaves) .none kV28 dc28 pm28 an28 cd28 ct28), sl28⟩)
    (c28 : PySem.W.codeIn K cd28 "_law_leaves" = true)
    (k28 : PySem.W.keepIn K (.ref f28) = true)
    (a29 : PySem.W.nsIn K mainGlobals "_law_other_leaf" = some (some (.ref f29)))
    (l29 : K.lookup f29 = some ⟨oc29, od29, .func (PySem.W.fnOf "_law_other_leaf" "_law_other_leaf" (defArgs s_law_other_leaf) (defBody s_law_other_leaf) (defScope s_law_other_leaf) .none kV29 dc29 pm29 an29 cd29 ct29), sl29⟩)
    (c29 : PySem.W.codeIn K cd29 "_law_other_leaf" = true)
    (k29 : PySem.W.keepIn K (.ref f29) = true)
    (a30 : PySem.W.nsIn K mainGlobals "_law_changed" = some (some (.ref f30)))
    (l30 : K.lookup f30 = some ⟨oc30, od30, .func (PySem.W.fnOf "_law_changed" "_law_changed" (defArgs s_law_changed) (defBody s_law_changed) (defScope s_law_changed) .none kV30 dc30 pm30 an30 cd30 ct30), sl30⟩)
    (c30 : PySem.W.codeIn K cd30 "_law_changed" = true)
    (k30 : PySem.W.keepIn K (.ref f30) = true)
    (a31 : PySem.W.nsIn K mainGlobals "law" = some (some (.ref f31)))
    (l31 : K.lookup f31 = some ⟨oc31, od31, .func (PySem.W.fnOf "law" "law" (defArgs s_law) (defBody s_law) (defScope s_law) .none kV31 dc31 pm31 an31 cd31 ct31), sl31⟩)
    (c31 : PySem.W.codeIn K cd31 "law" = true)
    (k31 : PySem.W.keepIn K (.ref f31) = true)
    : ∃ fd : FuncData, (∀ (s : Shared) (v : Value), BindsTo s fd ⟨[v], []⟩ [("script", v)]) ∧ ∀ base : Heap, K.In base → base.Ns mainGlobals mg → FnOk l.prog w K mg base (L2.CX l.prog w) 88 fa fd ["script"] (liftSp K (spScript K)) := by
  have e := hfa.symm.trans (PySem.W.mg_of X G a31)
  cases e
  let A : Adr := ⟨BOUND_KINDS⟩
  have T : Txt w K mg A := {
    n_all := PySem.W.mg_none_of X G zall
    n_bool := PySem.W.mg_none_of X G zbool
    n_int := PySem.W.mg_none_of X G zint
    n_isinstance := PySem.W.mg_none_of X G zisinstance
    n_len := PySem.W.mg_none_of X G zlen
    n_list := PySem.W.mg_none_of X G zlist
    n_max := PySem.W.mg_none_of X G zmax
    n_min := PySem.W.mg_none_of X G zmin
    n_range := PySem.W.mg_none_of X G zrange
    n_sorted := PySem.W.mg_none_of X G zsorted
    n_str := PySem.W.mg_none_of X G zstr
    n_tuple := PySem.W.mg_none_of X G ztuple
    k_BOUND_KINDS := PySem.W.mg_of X G aBOUND_KINDS
    in_BOUND_KINDS := fun {X} e1 e2 => by
      subst e1; subst e2
      exact op_inKD ⟨dlBOUND_KINDS, dkBOUND_KINDS, dsBOUND_KINDS⟩ }
  have HB : BK K A.BOUND_KINDS := ⟨fun h hh => by
    simp only [bkinds, List.mem_cons, List.not_mem_nil, or_false] at hh
    rcases hh with rfl | rfl | rfl | rfl | rfl | rfl
    · exact ⟨_, dyBOUND_KINDS0⟩
    · exact ⟨_, dyBOUND_KINDS1⟩
    · exact ⟨_, dyBOUND_KINDS2⟩
    · exact ⟨_, dyBOUND_KINDS3⟩
    · exact ⟨_, dyBOUND_KINDS4⟩
    · exact ⟨_, dyBOUND_KINDS5⟩, fun h hh => by
    rcases hh with rfl | rfl | rfl
    · exact dnBOUND_KINDS0
    · exact dnBOUND_KINDS1
    · exact dnBOUND_KINDS2⟩
  have F1 := fun_mk (st := s_items_start) l1 c1 k1
  have b1 := F1.binds (ps := P_items_start) fun _ _ _ _ _ _ us hl => match us, hl with | [_], _ => rfl
  have F2 := fun_mk (st := s_inner_end) l2 c2 k2
  have b2 := F2.binds (ps := P_inner_end) fun _ _ _ _ _ _ us hl => match us, hl with | [_], _ => rfl
  have F3 := fun_mk (st := s_same_words) l3 c3 k3
  have b3 := F3.binds (ps := P_same_words) fun _ _ _ _ _ _ us hl => match us, hl with | [_, _, _, _], _ => rfl
  have F4 := fun_mk (st := s_alike_expressions) l4 c4 k4
  have b4 := F4.binds (ps := P_alike_expressions) fun _ _ _ _ _ _ us hl => match us, hl with | [_, _, _, _], _ => rfl
  have F5 := fun_mk (st := s_alike_parts) l5 c5 k5
  have b5 := F5.binds (ps := P_alike_parts) fun _ _ _ _ _ _ us hl => match us, hl with | [_, _, _, _, _], _ => rfl
  have F6 := fun_mk (st := s_are_alike) l6 c6 k6
  have b6 := F6.binds (ps := P_are_alike) fun _ _ _ _ _ _ us hl => match us, hl with | [_, _], _ => rfl
  have F7 := fun_mk (st := s_law_start) l7 c7 k7
  have b7 := F7.binds (ps := P_law_start) fun _ _ _ _ _ _ us hl => match us, hl with | [_], _ => rfl
  have F8 := fun_mk (st := s_law_pick) l8 c8 k8
  have b8 := F8.binds (ps := P_law_pick) fun _ _ _ _ _ _ us hl => match us, hl with | [_, _], _ => rfl
  have F9 := fun_mk (st := s_law_same) l9 c9 k9
  have b9 := F9.binds (ps := P_law_same) fun _ _ _ _ _ _ us hl => match us, hl with | [_, _], _ => rfl
  have F10 := fun_mk (st := s_law_number) l10 c10 k10
  have b10 := F10.binds (ps := P_law_number) fun _ _ _ _ _ _ us hl => match us, hl with | [_], _ => rfl
  have F11 := fun_mk (st := s_law_expression) l11 c11 k11
  have b11 := F11.binds (ps := P_law_expression) fun _ _ _ _ _ _ us hl => match us, hl with | [_, _, _, _, _], _ => rfl
  have F12 := fun_mk (st := s_law_new) l12 c12 k12
  have b12 := F12.binds (ps := P_law_new) fun _ _ _ _ _ _ us hl => match us, hl with | [_, _], _ => rfl
  have F13 := fun_mk (st := s_law_names) l13 c13 k13
  have b13 := F13.binds (ps := P_law_names) fun _ _ _ _ _ _ us hl => match us, hl with | [_, _, _], _ => rfl
  have F14 := fun_mk (st := s_law_with) l14 c14 k14
  have b14 := F14.binds (ps := P_law_with) fun _ _ _ _ _ _ us hl => match us, hl with | [_, _, _], _ => rfl
  have F15 := fun_mk (st := s_law_met) l15 c15 k15
  have b15 := F15.binds (ps := P_law_met) fun _ _ _ _ _ _ us hl => match us, hl with | [_, _, _, _, _], _ => rfl
  have F16 := fun_mk (st := s_law_items) l16 c16 k16
  have b16 := F16.binds (ps := P_law_items) fun _ _ _ _ _ _ us hl => match us, hl with | [_], _ => rfl
  have F17 := fun_mk (st := s_law_rebuilt) l17 c17 k17
  have b17 := F17.binds (ps := P_law_rebuilt) fun _ _ _ _ _ _ us hl => match us, hl with | [_, _], _ => rfl
  have F18 := fun_mk (st := s_law_words) l18 c18 k18
  have b18 := F18.binds (ps := P_law_words) fun _ _ _ _ _ _ us hl => match us, hl with | [_], _ => rfl
  have F19 := fun_mk (st := s_law_free) l19 c19 k19
  have b19 := F19.binds (ps := P_law_free) fun _ _ _ _ _ _ us hl => match us, hl with | [_], _ => rfl
  have F20 := fun_mk (st := s_law_put) l20 c20 k20
  have b20 := F20.binds (ps := P_law_put) fun _ _ _ _ _ _ us hl => match us, hl with | [_, _, _], _ => rfl
  have F21 := fun_mk (st := s_law_tower) l21 c21 k21
  have b21 := F21.binds (ps := P_law_tower) fun _ _ _ _ _ _ us hl => match us, hl with | [_, _, _], _ => rfl
  have F22 := fun_mk (st := s_law_filled) l22 c22 k22
  have b22 := F22.binds (ps := P_law_filled) fun _ _ _ _ _ _ us hl => match us, hl with | [_, _], _ => rfl
  have F23 := fun_mk (st := s_law_plain) l23 c23 k23
  have b23 := F23.binds (ps := P_law_plain) fun _ _ _ _ _ _ us hl => match us, hl with | [_, _, _], _ => rfl
  have F24 := fun_mk (st := s_law_renamed) l24 c24 k24
  have b24 := F24.binds (ps := P_law_renamed) fun _ _ _ _ _ _ us hl => match us, hl with | [_, _, _, _], _ => rfl
  have F25 := fun_mk (st := s_law_uses_in) l25 c25 k25
  have b25 := F25.binds (ps := P_law_uses_in) fun _ _ _ _ _ _ us hl => match us, hl with | [_], _ => rfl
  have F26 := fun_mk (st := s_law_uses) l26 c26 k26
  have b26 := F26.binds (ps := P_law_uses) fun _ _ _ _ _ _ us hl => match us, hl with | [_], _ => rfl
  have F27 := fun_mk (st := s_law_fits) l27 c27 k27
  have b27 := F27.binds (ps := P_law_fits) fun _ _ _ _ _ _ us hl => match us, hl with | [_], _ => rfl
  have F28 := fun_mk (st := s_law_leaves) l28 c28 k28
  have b28 := F28.binds (ps := P_law_leaves) fun _ _ _ _ _ _ us hl => match us, hl with | [_, _], _ => rfl
  have F29 := fun_mk (st := s_law_other_leaf) l29 c29 k29
  have b29 := F29.binds (ps := P_law_other_leaf) fun _ _ _ _ _ _ us hl => match us, hl with | [_, _, _, _], _ => rfl
  have F30 := fun_mk (st := s_law_changed) l30 c30 k30
  have b30 := F30.binds (ps := P_law_changed) fun _ _ _ _ _ _ us hl => match us, hl with | [_, _, _], _ => rfl
  have F31 := fun_mk (st := s_law) l31 c31 k31
  have b31 := F31.binds (ps := P_law) fun _ _ _ _ _ _ us hl => match us, hl with | [_], _ => rfl
  refine ⟨PySem.W.fnOf "law" "law" (defArgs s_law) (defBody s_law) (defScope s_law) .none kV31 dc31 pm31 an31 cd31 ct31, fun s v => .of_eq rfl, fun base _ _ => ?_⟩
  have O1 : FnOk l.prog w K mg base (L2.CX l.prog w) 1 f1 _ P_items_start (liftSp K (sp_items_start)) := ok_items_start T  F1 (sp_items_start) len_items_start r_items_start
  have G_items_start : FnD l.prog w K mg base 1 "items_start" P_items_start [] (sp_items_start) := fnd_mk F1 (PySem.W.mg_of X G a1) b1 O1
  have O2 : FnOk l.prog w K mg base (L2.CX l.prog w) 1 f2 _ P_inner_end (liftSp K (sp_inner_end)) := ok_inner_end T  F2 (sp_inner_end) len_inner_end r_inner_end
  have G_inner_end : FnD l.prog w K mg base 1 "inner_end" P_inner_end [] (sp_inner_end) := fnd_mk F2 (PySem.W.mg_of X G a2) b2 O2
  have O3 : FnOk l.prog w K mg base (L2.CX l.prog w) 1 f3 _ P_same_words (liftSp K (sp_same_words)) := ok_same_words T  F3 (sp_same_words) len_same_words r_same_words
  have G_same_words : FnD l.prog w K mg base 1 "same_words" P_same_words [] (sp_same_words) := fnd_mk F3 (PySem.W.mg_of X G a3) b3 O3
  have GG_alike_expressions : ∀ n, FnD l.prog w K mg base (1 + n) "alike_expressions" P_alike_expressions [] (sp_alike_expressions n) := fun n => by
    induction n with
    | zero => exact fnd_mk F4 (PySem.W.mg_of X G a4) b4 (fnOk_not fun ds M Q E h => by first | exact h.elim | ((repeat (obtain ⟨_, h⟩ := h)); omega))
    | succ n ih => exact fnd_mk F4 (PySem.W.mg_of X G a4) b4 (ok_alike_expressions T ih G_inner_end G_items_start G_same_words F4 (sp_alike_expressions (n + 1)) len_alike_expressions r_alike_expressions)
  have G_alike_expressions := GG_alike_expressions 6
  have GG_alike_parts : ∀ n, FnD l.prog w K mg base (7 + n) "alike_parts" P_alike_parts [] (sp_alike_parts n) := fun n => by
    induction n with
    | zero => exact fnd_mk F5 (PySem.W.mg_of X G a5) b5 (fnOk_not fun ds M Q E h => by first | exact h.elim | ((repeat (obtain ⟨_, h⟩ := h)); omega))
    | succ n ih => exact fnd_mk F5 (PySem.W.mg_of X G a5) b5 (ok_alike_parts T G_alike_expressions ih F5 (sp_alike_parts (n + 1)) len_alike_parts (r_alike_parts HB))
  have G_alike_parts := GG_alike_parts 40
  have O6 : FnOk l.prog w K mg base (L2.CX l.prog w) 48 f6 _ P_are_alike (liftSp K (sp_are_alike)) := ok_are_alike T G_alike_parts F6 (sp_are_alike) len_are_alike r_are_alike
  have G_are_alike : FnD l.prog w K mg base 48 "are_alike" P_are_alike [] (sp_are_alike) := fnd_mk F6 (PySem.W.mg_of X G a6) b6 O6
  have O7 : FnOk l.prog w K mg base (L2.CX l.prog w) 1 f7 _ P_law_start (liftSp K (sp_law_start K)) := fnOk_or (ok_law_start T F7 sp_law_start1 (fun ds M Q E h => by (repeat (obtain ⟨_, h⟩ := h)); subst_vars; rfl) r_law_start) (ok_law_startK T F7 (sp_law_start2 K) (fun ds M Q E h => by (repeat (obtain ⟨_, h⟩ := h)); subst_vars; rfl) r_law_startK) (fun ds M Q E ⟨a, ns, e, h, r⟩ => h.elim (fun h => .inl ⟨a, ns, e, h, r⟩) fun h => .inr ⟨a, ns, e, h, r⟩)
  have G_law_start : FnD l.prog w K mg base 1 "_law_start" P_law_start [] (sp_law_start K) := fnd_mk F7 (PySem.W.mg_of X G a7) b7 O7
  have O8 : FnOk l.prog w K mg base (L2.CX l.prog w) 1 f8 _ P_law_pick (liftSp K (sp_law_pick)) := ok_law_pick T  F8 (sp_law_pick) len_law_pick r_law_pick
  have G_law_pick : FnD l.prog w K mg base 1 "_law_pick" P_law_pick [] (sp_law_pick) := fnd_mk F8 (PySem.W.mg_of X G a8) b8 O8
  have GG_law_same : ∀ n, FnD l.prog w K mg base (0 + n) "_law_same" P_law_same [] (sp_law_same n) := fun n => by
    induction n with
    | zero => exact fnd_mk F9 (PySem.W.mg_of X G a9) b9 (fnOk_not fun ds M Q E h => by first | exact h.elim | ((repeat (obtain ⟨_, h⟩ := h)); omega))
    | succ n ih => exact fnd_mk F9 (PySem.W.mg_of X G a9) b9 (ok_law_same T ih F9 (sp_law_same (n + 1)) len_law_same r_law_same)
  have G_law_same := GG_law_same 4
  have O10 : FnOk l.prog w K mg base (L2.CX l.prog w) 2 f10 _ P_law_number (liftSp K (sp_law_number)) := ok_law_number T G_law_pick F10 (sp_law_number) len_law_number r_law_number
  have G_law_number : FnD l.prog w K mg base 2 "_law_number" P_law_number [] (sp_law_number) := fnd_mk F10 (PySem.W.mg_of X G a10) b10 O10
  have GG_law_expression : ∀ n, FnD l.prog w K mg base (2 + n) "_law_expression" P_law_expression [] (sp_law_expression n) := fun n => by
    induction n with
    | zero => exact fnd_mk F11 (PySem.W.mg_of X G a11) b11 (fnOk_not fun ds M Q E h => by first | exact h.elim | ((repeat (obtain ⟨_, h⟩ := h)); omega))
    | succ n ih => exact fnd_mk F11 (PySem.W.mg_of X G a11) b11 (ok_law_expression T ih G_law_number G_law_pick F11 (sp_law_expression (n + 1)) len_law_expression r_law_expression)
  have G_law_expression := GG_law_expression 4
  have O12 : FnOk l.prog w K mg base (L2.CX l.prog w) 2 f12 _ P_law_new (liftSp K (sp_law_new)) := ok_law_new T G_law_pick F12 (sp_law_new) len_law_new r_law_new
  have G_law_new : FnD l.prog w K mg base 2 "_law_new" P_law_new [] (sp_law_new) := fnd_mk F12 (PySem.W.mg_of X G a12) b12 O12
  have O13 : FnOk l.prog w K mg base (L2.CX l.prog w) 3 f13 _ P_law_names (liftSp K (sp_law_names)) := ok_law_names T G_law_new F13 (sp_law_names) len_law_names r_law_names
  have G_law_names : FnD l.prog w K mg base 3 "_law_names" P_law_names [] (sp_law_names) := fnd_mk F13 (PySem.W.mg_of X G a13) b13 O13
  have O14 : FnOk l.prog w K mg base (L2.CX l.prog w) 1 f14 _ P_law_with (liftSp K (sp_law_with)) := ok_law_with T  F14 (sp_law_with) len_law_with r_law_with
  have G_law_with : FnD l.prog w K mg base 1 "_law_with" P_law_with [] (sp_law_with) := fnd_mk F14 (PySem.W.mg_of X G a14) b14 O14
  have GG_law_met : ∀ n, FnD l.prog w K mg base (6 + n) "_law_met" P_law_met [] (sp_law_met n) := fun n => by
    induction n with
    | zero => exact fnd_mk F15 (PySem.W.mg_of X G a15) b15 (fnOk_not fun ds M Q E h => by first | exact h.elim | ((repeat (obtain ⟨_, h⟩ := h)); omega))
    | succ n ih => exact fnd_mk F15 (PySem.W.mg_of X G a15) b15 (ok_law_met T G_law_expression ih G_law_new G_law_pick G_law_with F15 (sp_law_met (n + 1)) len_law_met r_law_met)
  have G_law_met := GG_law_met 8
  have O16 : FnOk l.prog w K mg base (L2.CX l.prog w) 1 f16 _ P_law_items (liftSp K (sp_law_items)) := ok_law_items T  F16 (sp_law_items) len_law_items r_law_items
  have G_law_items : FnD l.prog w K mg base 1 "_law_items" P_law_items [] (sp_law_items) := fnd_mk F16 (PySem.W.mg_of X G a16) b16 O16
  have O17 : FnOk l.prog w K mg base (L2.CX l.prog w) 1 f17 _ P_law_rebuilt (liftSp K (sp_law_rebuilt)) := ok_law_rebuilt T  F17 (sp_law_rebuilt) len_law_rebuilt r_law_rebuilt
  have G_law_rebuilt : FnD l.prog w K mg base 1 "_law_rebuilt" P_law_rebuilt [] (sp_law_rebuilt) := fnd_mk F17 (PySem.W.mg_of X G a17) b17 O17
  have GG_law_words : ∀ n, FnD l.prog w K mg base (1 + n) "_law_words" P_law_words [] (sp_law_words n) := fun n => by
    induction n with
    | zero => exact fnd_mk F18 (PySem.W.mg_of X G a18) b18 (fnOk_not fun ds M Q E h => by first | exact h.elim | ((repeat (obtain ⟨_, h⟩ := h)); omega))
    | succ n ih => exact fnd_mk F18 (PySem.W.mg_of X G a18) b18 (ok_law_words T G_law_items ih F18 (sp_law_words (n + 1)) len_law_words r_law_words)
  have G_law_words := GG_law_words 6
  have GG_law_free : ∀ n, FnD l.prog w K mg base (7 + n) "_law_free" P_law_free [] (sp_law_free n) := fun n => by
    induction n with
    | zero => exact fnd_mk F19 (PySem.W.mg_of X G a19) b19 (fnOk_not fun ds M Q E h => by first | exact h.elim | ((repeat (obtain ⟨_, h⟩ := h)); omega))
    | succ n ih => exact fnd_mk F19 (PySem.W.mg_of X G a19) b19 (ok_law_free T ih G_law_words F19 (sp_law_free (n + 1)) len_law_free r_law_free)
  have G_law_free := GG_law_free 40
  have GG_law_put : ∀ n, FnD l.prog w K mg base (0 + n) "_law_put" P_law_put [] (sp_law_put n) := fun n => by
    induction n with
    | zero => exact fnd_mk F20 (PySem.W.mg_of X G a20) b20 (fnOk_not fun ds M Q E h => by first | exact h.elim | ((repeat (obtain ⟨_, h⟩ := h)); omega))
    | succ n ih => exact fnd_mk F20 (PySem.W.mg_of X G a20) b20 (ok_law_put T ih F20 (sp_law_put (n + 1)) len_law_put r_law_put)
  have G_law_put := GG_law_put 60
  have O21 : FnOk l.prog w K mg base (L2.CX l.prog w) 48 f21 _ P_law_tower (liftSp K (sp_law_tower)) := ok_law_tower T G_law_expression G_law_free G_law_pick F21 (sp_law_tower) len_law_tower r_law_tower
  have G_law_tower : FnD l.prog w K mg base 48 "_law_tower" P_law_tower [] (sp_law_tower) := fnd_mk F21 (PySem.W.mg_of X G a21) b21 O21
  have GG_law_filled : ∀ n, FnD l.prog w K mg base (1 + n) "_law_filled" P_law_filled [] (sp_law_filled n) := fun n => by
    induction n with
    | zero => exact fnd_mk F22 (PySem.W.mg_of X G a22) b22 (fnOk_not fun ds M Q E h => by first | exact h.elim | ((repeat (obtain ⟨_, h⟩ := h)); omega))
    | succ n ih => exact fnd_mk F22 (PySem.W.mg_of X G a22) b22 (ok_law_filled T ih G_law_items G_law_rebuilt F22 (sp_law_filled (n + 1)) len_law_filled r_law_filled)
  have G_law_filled := GG_law_filled 6
  have GG_law_plain : ∀ n, FnD l.prog w K mg base (7 + n) "_law_plain" P_law_plain [] (sp_law_plain n) := fun n => by
    induction n with
    | zero => exact fnd_mk F23 (PySem.W.mg_of X G a23) b23 (fnOk_not fun ds M Q E h => by first | exact h.elim | ((repeat (obtain ⟨_, h⟩ := h)); omega))
    | succ n ih => exact fnd_mk F23 (PySem.W.mg_of X G a23) b23 (ok_law_plain T G_law_filled ih G_law_with F23 (sp_law_plain (n + 1)) len_law_plain r_law_plain)
  have G_law_plain := GG_law_plain 40
  have GG_law_renamed : ∀ n, FnD l.prog w K mg base (47 + n) "_law_renamed" P_law_renamed [] (sp_law_renamed n) := fun n => by
    induction n with
    | zero => exact fnd_mk F24 (PySem.W.mg_of X G a24) b24 (fnOk_not fun ds M Q E h => by first | exact h.elim | ((repeat (obtain ⟨_, h⟩ := h)); omega))
    | succ n ih => exact fnd_mk F24 (PySem.W.mg_of X G a24) b24 (ok_law_renamed T G_law_filled G_law_free G_law_new G_law_pick ih G_law_with F24 (sp_law_renamed (n + 1)) len_law_renamed r_law_renamed)
  have G_law_renamed := GG_law_renamed 40
  have GG_law_uses_in : ∀ n, FnD l.prog w K mg base (1 + n) "_law_uses_in" P_law_uses_in [] (sp_law_uses_in n) := fun n => by
    induction n with
    | zero => exact fnd_mk F25 (PySem.W.mg_of X G a25) b25 (fnOk_not fun ds M Q E h => by first | exact h.elim | ((repeat (obtain ⟨_, h⟩ := h)); omega))
    | succ n ih => exact fnd_mk F25 (PySem.W.mg_of X G a25) b25 (ok_law_uses_in T G_law_items ih F25 (sp_law_uses_in (n + 1)) len_law_uses_in r_law_uses_in)
  have G_law_uses_in := GG_law_uses_in 6
  have GG_law_uses : ∀ n, FnD l.prog w K mg base (7 + n) "_law_uses" P_law_uses [] (sp_law_uses n) := fun n => by
    induction n with
    | zero => exact fnd_mk F26 (PySem.W.mg_of X G a26) b26 (fnOk_not fun ds M Q E h => by first | exact h.elim | ((repeat (obtain ⟨_, h⟩ := h)); omega))
    | succ n ih => exact fnd_mk F26 (PySem.W.mg_of X G a26) b26 (ok_law_uses T ih G_law_uses_in F26 (sp_law_uses (n + 1)) len_law_uses r_law_uses)
  have G_law_uses := GG_law_uses 40
  have O27 : FnOk l.prog w K mg base (L2.CX l.prog w) 48 f27 _ P_law_fits (liftSp K (sp_law_fits)) := ok_law_fits T G_law_uses F27 (sp_law_fits) len_law_fits r_law_fits
  have G_law_fits : FnD l.prog w K mg base 48 "_law_fits" P_law_fits [] (sp_law_fits) := fnd_mk F27 (PySem.W.mg_of X G a27) b27 O27
  have GG_law_leaves : ∀ n, FnD l.prog w K mg base (0 + n) "_law_leaves" P_law_leaves [] (sp_law_leaves n) := fun n => by
    induction n with
    | zero => exact fnd_mk F28 (PySem.W.mg_of X G a28) b28 (fnOk_not fun ds M Q E h => by first | exact h.elim | ((repeat (obtain ⟨_, h⟩ := h)); omega))
    | succ n ih => exact fnd_mk F28 (PySem.W.mg_of X G a28) b28 (ok_law_leaves T ih F28 (sp_law_leaves (n + 1)) len_law_leaves r_law_leaves)
  have G_law_leaves := GG_law_leaves 60
  have O29 : FnOk l.prog w K mg base (L2.CX l.prog w) 3 f29 _ P_law_other_leaf (liftSp K (sp_law_other_leaf)) := ok_law_other_leaf T G_law_new G_law_number G_law_pick F29 (sp_law_other_leaf) len_law_other_leaf r_law_other_leaf
  have G_law_other_leaf : FnD l.prog w K mg base 3 "_law_other_leaf" P_law_other_leaf [] (sp_law_other_leaf) := fnd_mk F29 (PySem.W.mg_of X G a29) b29 O29
  have O30 : FnOk l.prog w K mg base (L2.CX l.prog w) 61 f30 _ P_law_changed (liftSp K (sp_law_changed)) := ok_law_changed T G_law_fits G_law_leaves G_law_other_leaf G_law_pick G_law_put F30 (sp_law_changed) len_law_changed r_law_changed
  have G_law_changed : FnD l.prog w K mg base 61 "_law_changed" P_law_changed [] (sp_law_changed) := fnd_mk F30 (PySem.W.mg_of X G a30) b30 O30
  exact ok_law T G_law_changed G_law_met G_law_names G_law_new G_law_pick G_law_plain G_law_renamed G_law_same G_law_start G_law_tower G_are_alike F31 (sp_law K) len_law r_law
end K06

open PySem PySem.W PyProof.Rows
set_option maxRecDepth 100000 in
set_option maxHeartbeats 0 in
theorem PySem.Challenge.cw_proofchoosers_k06_sentences_alike_holds : PySem.Challenge.rw_proofchoosers_k06_sentences_alike.Holds := by
  w_on; o_law; k_head; (case hw => w_witness2)
  k_fill
  refine DL.walkD (n := 63) (k := 88) (x := "script") (l := PySem.Challenge.rw_proofchoosers_k06_sentences_alike) rfl (by decide) rfl ⟨rfl, by decide, by decide⟩ (fun w h Y => PySem.W.kIn_of Y) ?F
  case F =>
    intro w mg fa h KX G hmg
    refine' K06.all_mk KX G hmg ?aBOUND_KINDS ?zall ?zbool ?zint ?zisinstance ?zlen ?zlist ?zmax ?zmin ?zrange ?zsorted ?zstr ?ztuple ?dlBOUND_KINDS ?dkBOUND_KINDS ?dsBOUND_KINDS ?dyBOUND_KINDS0 ?dyBOUND_KINDS1 ?dyBOUND_KINDS2 ?dyBOUND_KINDS3 ?dyBOUND_KINDS4 ?dyBOUND_KINDS5 ?dnBOUND_KINDS0 ?dnBOUND_KINDS1 ?dnBOUND_KINDS2 ?a1 ?l1 ?c1 ?k1 ?a2 ?l2 ?c2 ?k2 ?a3 ?l3 ?c3 ?k3 ?a4 ?l4 ?c4 ?k4 ?a5 ?l5 ?c5 ?k5 ?a6 ?l6 ?c6 ?k6 ?a7 ?l7 ?c7 ?k7 ?a8 ?l8 ?c8 ?k8 ?a9 ?l9 ?c9 ?k9 ?a10 ?l10 ?c10 ?k10 ?a11 ?l11 ?c11 ?k11 ?a12 ?l12 ?c12 ?k12 ?a13 ?l13 ?c13 ?k13 ?a14 ?l14 ?c14 ?k14 ?a15 ?l15 ?c15 ?k15 ?a16 ?l16 ?c16 ?k16 ?a17 ?l17 ?c17 ?k17 ?a18 ?l18 ?c18 ?k18 ?a19 ?l19 ?c19 ?k19 ?a20 ?l20 ?c20 ?k20 ?a21 ?l21 ?c21 ?k21 ?a22 ?l22 ?c22 ?k22 ?a23 ?l23 ?c23 ?k23 ?a24 ?l24 ?c24 ?k24 ?a25 ?l25 ?c25 ?k25 ?a26 ?l26 ?c26 ?k26 ?a27 ?l27 ?c27 ?k27 ?a28 ?l28 ?c28 ?k28 ?a29 ?l29 ?c29 ?k29 ?a30 ?l30 ?c30 ?k30 ?a31 ?l31 ?c31 ?k31
    (case aBOUND_KINDS => k_is)
    (case zall => k_is)
    (case zbool => k_is)
    (case zint => k_is)
    (case zisinstance => k_is)
    (case zlen => k_is)
    (case zlist => k_is)
    (case zmax => k_is)
    (case zmin => k_is)
    (case zrange => k_is)
    (case zsorted => k_is)
    (case zstr => k_is)
    (case ztuple => k_is)
    (case dlBOUND_KINDS => k_is)
    (case dkBOUND_KINDS => (repeat (first | exact trivial | refine ⟨⟨_, _, rfl, rfl⟩, ?_⟩)))
    (case dsBOUND_KINDS => rfl)
    (case dyBOUND_KINDS0 => k_is)
    (case dyBOUND_KINDS1 => k_is)
    (case dyBOUND_KINDS2 => k_is)
    (case dyBOUND_KINDS3 => k_is)
    (case dyBOUND_KINDS4 => k_is)
    (case dyBOUND_KINDS5 => k_is)
    (case dnBOUND_KINDS0 => k_is)
    (case dnBOUND_KINDS1 => k_is)
    (case dnBOUND_KINDS2 => k_is)
    (case a1 => k_is)
    (case l1 => k_is)
    (case c1 => k_is)
    (case k1 => k_is)
    (case a2 => k_is)
    (case l2 => k_is)
    (case c2 => k_is)
    (case k2 => k_is)
    (case a3 => k_is)
    (case l3 => k_is)
    (case c3 => k_is)
    (case k3 => k_is)
    (case a4 => k_is)
    (case l4 => k_is)
    (case c4 => k_is)
    (case k4 => k_is)
    (case a5 => k_is)
    (case l5 => k_is)
    (case c5 => k_is)
    (case k5 => k_is)
    (case a6 => k_is)
    (case l6 => k_is)
    (case c6 => k_is)
    (case k6 => k_is)
    (case a7 => k_is)
    (case l7 => k_is)
    (case c7 => k_is)
    (case k7 => k_is)
    (case a8 => k_is)
    (case l8 => k_is)
    (case c8 => k_is)
    (case k8 => k_is)
    (case a9 => k_is)
    (case l9 => k_is)
    (case c9 => k_is)
    (case k9 => k_is)
    (case a10 => k_is)
    (case l10 => k_is)
    (case c10 => k_is)
    (case k10 => k_is)
    (case a11 => k_is)
    (case l11 => k_is)
    (case c11 => k_is)
    (case k11 => k_is)
    (case a12 => k_is)
    (case l12 => k_is)
    (case c12 => k_is)
    (case k12 => k_is)
    (case a13 => k_is)
    (case l13 => k_is)
    (case c13 => k_is)
    (case k13 => k_is)
    (case a14 => k_is)
    (case l14 => k_is)
    (case c14 => k_is)
    (case k14 => k_is)
    (case a15 => k_is)
    (case l15 => k_is)
    (case c15 => k_is)
    (case k15 => k_is)
    (case a16 => k_is)
    (case l16 => k_is)
    (case c16 => k_is)
    (case k16 => k_is)
    (case a17 => k_is)
    (case l17 => k_is)
    (case c17 => k_is)
    (case k17 => k_is)
    (case a18 => k_is)
    (case l18 => k_is)
    (case c18 => k_is)
    (case k18 => k_is)
    (case a19 => k_is)
    (case l19 => k_is)
    (case c19 => k_is)
    (case k19 => k_is)
    (case a20 => k_is)
    (case l20 => k_is)
    (case c20 => k_is)
    (case k20 => k_is)
    (case a21 => k_is)
    (case l21 => k_is)
    (case c21 => k_is)
    (case k21 => k_is)
    (case a22 => k_is)
    (case l22 => k_is)
    (case c22 => k_is)
    (case k22 => k_is)
    (case a23 => k_is)
    (case l23 => k_is)
    (case c23 => k_is)
    (case k23 => k_is)
    (case a24 => k_is)
    (case l24 => k_is)
    (case c24 => k_is)
    (case k24 => k_is)
    (case a25 => k_is)
    (case l25 => k_is)
    (case c25 => k_is)
    (case k25 => k_is)
    (case a26 => k_is)
    (case l26 => k_is)
    (case c26 => k_is)
    (case k26 => k_is)
    (case a27 => k_is)
    (case l27 => k_is)
    (case c27 => k_is)
    (case k27 => k_is)
    (case a28 => k_is)
    (case l28 => k_is)
    (case c28 => k_is)
    (case k28 => k_is)
    (case a29 => k_is)
    (case l29 => k_is)
    (case c29 => k_is)
    (case k29 => k_is)
    (case a30 => k_is)
    (case l30 => k_is)
    (case c30 => k_is)
    (case k30 => k_is)
    (case a31 => k_is)
    (case l31 => k_is)
    (case c31 => k_is)
    (case k31 => k_is)


