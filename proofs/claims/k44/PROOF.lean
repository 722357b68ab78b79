import PyProof.Rows.All
import Wide.All
import OpenK.AllK
import Wide.FinOn
import HandS.ForMost
import HandS.ForExc
import HandS.TupAny
import HandS.IsInst
import HandS.Wide
import HandS.WideBits
import HandS.TupMul
import HandS.Style
import HandS.CallSlots
import HandS.Codes
import HandS.EndBits
import HandS.ExcIs
import HandS.ExcField
import HandS.TryMany
import HandS.Defaults
import HandS.Zip
import HandS.Iter
import HandS.Deep
import PyProof.DictUpdate
import PyProof.DictDisplay
import HandS.Small
import HandS.WordsDict
import HandS.SortInts
import HandS.Text
import HandS.More
import HandS.ExcInit
import KE.KExcIs
import HandS.Conv
import HandS.ClsMeth
import PyProof.P3In
import HandS.SortKw
import KE.DataMinKey
import PySem.Challenge.RW_proofchoosers_k44_least_certificates
set_option Elab.async false
set_option linter.all false
set_option maxRecDepth 100000
namespace DL
open PySem L2

/-- plain data: tuples are values, mutable things are addresses -/
inductive D where
  | non | bl (b : Bool) | int (i : Int) | str (x : Str) | tup (xs : List D) | ref (a : Addr) | ty (n : String)

section
variable (K : PySem.W.Frag) (H : Hp)
mutual
inductive Rp : V → D → Prop
  | non : Rp .non .non
  | bl (b) : Rp (.bl b) (.bl b)
  | int (i) : Rp (.int i) (.int i)
  | str (x) : Rp (.str x) (.str x)
  | ref (a) : Rp (.ref a) (.ref a)
  | ty (n) : Rp (.ty n) (.ty n)
  | tup {a : Addr} {xs : List V} {ds : List D} : SqT K H a xs → RpL xs ds → Rp (.ref a) (.tup ds)
inductive RpL : List V → List D → Prop
  | nil : RpL [] []
  | cons {x : V} {d : D} {xs : List V} {ds : List D} : Rp x d → RpL xs ds → RpL (x :: xs) (d :: ds)
end
/-- tuples stay, and what is read only -/
structure TExt (H H' : Hp) : Prop where
  tup : ∀ a xs, SqT K H a xs → SqT K H' a xs
  frz : ∀ a o u, H a = some (.frz o u) → H' a = some (.frz o u)
end
section
variable {K : PySem.W.Frag} {H H' H1 H2 : Hp}
theorem TExt.refl : TExt K H H := ⟨fun _ _ h => h, fun _ _ _ h => h⟩
theorem TExt.trans (a : TExt K H H1) (b : TExt K H1 H2) : TExt K H H2 := ⟨fun p xs h => b.tup p xs (a.tup p xs h), fun p o u h => b.frz p o u (a.frz p o u h)⟩
mutual
theorem Rp.mono (e : TExt K H H') : ∀ {v : V} {d : D}, Rp K H v d → Rp K H' v d
  | _, _, .non => .non
  | _, _, .bl b => .bl b
  | _, _, .int b => .int b
  | _, _, .str b => .str b
  | _, _, .ref b => .ref b
  | _, _, .ty b => .ty b
  | _, _, .tup h l => .tup (e.tup _ _ h) (RpL.mono e l)
theorem RpL.mono (e : TExt K H H') : ∀ {v : List V} {d : List D}, RpL K H v d → RpL K H' v d
  | _, _, .nil => .nil
  | _, _, .cons h l => .cons (Rp.mono e h) (RpL.mono e l)
end
/-- writing at a place that is no tuple's -/
def NoTup (o : Option HO) : Prop := match o with
  | some (.tup _) => False
  | some (.frz _ _) => False
  | _ => True
theorem TExt.upd {p : Addr} {o : HO} (h : NoTup (H p)) : TExt K H (upd H p o) := by
  refine ⟨fun a xs hs => ?_, fun a o' u hs => ?_⟩
  rotate_left
  · rw [upd_ne]
    · exact hs
    · rintro rfl; rw [hs] at h; exact h
  rcases hs with (hs | ⟨q, hs⟩) | hs
  · refine .inl (.inl ?_)
    rw [upd_ne]
    · exact hs
    · rintro rfl; rw [hs] at h; exact h
  · refine .inl (.inr ⟨q, ?_⟩)
    rw [upd_ne]
    · exact hs
    · rintro rfl; rw [hs] at h; exact h
  · exact .inr hs
theorem TExt.new {p : Addr} {o : HO} (h : H p = none) : TExt K H (L2.upd H p o) := TExt.upd (by rw [h]; trivial)

theorem RpL.length : ∀ {xs : List V} {ds : List D}, RpL K H xs ds → xs.length = ds.length
  | _, _, .nil => rfl
  | _, _, .cons _ l => by simp [RpL.length l]
theorem RpL.append : ∀ {xs ys : List V} {ds es : List D}, RpL K H xs ds → RpL K H ys es → RpL K H (xs ++ ys) (ds ++ es)
  | _, _, _, _, .nil, m => m
  | _, _, _, _, .cons r l, m => .cons r (RpL.append l m)
theorem RpL.take : ∀ {xs : List V} {ds : List D} (n : Nat), RpL K H xs ds → RpL K H (xs.take n) (ds.take n)
  | _, _, 0, _ => by simpa using RpL.nil
  | _, _, _ + 1, .nil => .nil
  | _, _, n + 1, .cons r l => .cons r (RpL.take n l)
theorem RpL.drop : ∀ {xs : List V} {ds : List D} (n : Nat), RpL K H xs ds → RpL K H (xs.drop n) (ds.drop n)
  | _, _, 0, h => by simpa using h
  | _, _, _ + 1, .nil => .nil
  | _, _, n + 1, .cons _ l => RpL.drop n l
theorem RpL.get : ∀ {xs : List V} {ds : List D} {i : Nat} {d : D}, RpL K H xs ds → ds[i]? = some d → ∃ x, xs[i]? = some x ∧ Rp K H x d
  | _, _, _, _, .nil, e => by simp at e
  | _, _, 0, _, .cons r _, e => by simp at e; subst e; exact ⟨_, rfl, r⟩
  | _, _, i + 1, d, .cons _ l, e => by
    obtain ⟨x, h1, h2⟩ := RpL.get (i := i) (d := d) l (by simpa using e)
    exact ⟨x, by simpa using h1, h2⟩
theorem RpL.set {x : V} {d : D} (r : Rp K H x d) : ∀ {xs : List V} {ds : List D} (i : Nat), RpL K H xs ds → RpL K H (xs.set i x) (ds.set i d)
  | _, _, _, .nil => .nil
  | _, _, 0, .cons _ l => .cons r l
  | _, _, i + 1, .cons q l => .cons q (RpL.set r i l)
theorem RpL.reverse {xs : List V} {ds : List D} (h : RpL K H xs ds) : RpL K H xs.reverse ds.reverse := by
  induction xs generalizing ds with
  | nil => cases h; exact .nil
  | cons x xs ih =>
    cases h with
    | cons r l => rw [List.reverse_cons, List.reverse_cons]; exact (ih l).append (.cons r .nil)
theorem RpL.dropLast : ∀ {xs : List V} {ds : List D}, RpL K H xs ds → RpL K H xs.dropLast ds.dropLast
  | _, _, .nil => .nil
  | _, _, .cons _ .nil => .nil
  | _, _, .cons r (.cons q l) => .cons r (RpL.dropLast (.cons q l))
theorem RpL.rep {xs : List V} {ds : List D} (h : RpL K H xs ds) : ∀ k : Nat, RpL K H (List.replicate k xs).flatten (List.replicate k ds).flatten
  | 0 => .nil
  | k + 1 => by rw [List.replicate_succ, List.replicate_succ, List.flatten_cons, List.flatten_cons]; exact h.append (RpL.rep h k)
theorem RpL.isEmpty {xs : List V} {ds : List D} (h : RpL K H xs ds) : xs.isEmpty = ds.isEmpty := by
  cases h <;> rfl
theorem RpL.nil_of {xs : List V} (h : RpL K H xs []) : xs = [] := by cases h; rfl
theorem RpL.ints : ∀ {xs : List V} {ns : List Int}, RpL K H xs (ns.map D.int) → xs = ns.map V.int
  | _, [], .nil => rfl
  | _, n :: ns, .cons (.int _) l => by rw [RpL.ints l]; rfl
theorem RpL.strs : ∀ {xs : List V} {ns : List Str}, RpL K H xs (ns.map D.str) → xs = ns.map V.str
  | _, [], .nil => rfl
  | _, n :: ns, .cons (.str _) l => by rw [RpL.strs l]; rfl
theorem RpL.bls : ∀ {xs : List V} {ns : List Bool}, RpL K H xs (ns.map D.bl) → xs = ns.map V.bl
  | _, [], .nil => rfl
  | _, n :: ns, .cons (.bl _) l => by rw [RpL.bls l]; rfl
theorem RpL.ofInts : ∀ {ns : List Int}, RpL K H (ns.map V.int) (ns.map D.int)
  | [] => .nil
  | n :: ns => .cons (.int n) RpL.ofInts
theorem RpL.ofStrs : ∀ {ns : List Str}, RpL K H (ns.map V.str) (ns.map D.str)
  | [] => .nil
  | n :: ns => .cons (.str n) RpL.ofStrs
end

/-! ### the mutable part -/
inductive MO where
  /-- a list -/
  | lst (xs : List D)
  /-- a list that is read only -/
  | rol (xs : List D)
  /-- a dict with keys that are ints or texts -/
  | dk (kvs : List (Key × D))
  /-- an instance of the class at C -/
  | ins (C : Addr) (fs : List (Str × D))
  /-- the attributes of an exception -/
  | xd (fs : List (Str × D))
  /-- a dict that is read only, while it is walked -/
  | rdk (kvs : List (Key × D))
abbrev Mp := Addr → Option MO
def put (M : Mp) (a : Addr) (o : MO) : Mp := fun b => if b = a then some o else M b
theorem put_same {M : Mp} {a : Addr} {o : MO} : put M a o a = some o := by unfold put; rw [if_pos rfl]
theorem put_ne {M : Mp} {a b : Addr} {o : MO} (h : b ≠ a) : put M a o b = M b := by unfold put; rw [if_neg h]
theorem put_put {M : Mp} {a : Addr} {o u : MO} : put (put M a o) a u = put M a u := by
  funext b; unfold put; split <;> rfl
def KD (K : PySem.W.Frag) (H : Hp) : List (Key × V) → List (Key × D) → Prop
  | [], [] => True
  | p :: ps, q :: qs => p.1 = q.1 ∧ Rp K H p.2 q.2 ∧ KD K H ps qs
  | _, _ => False
def FD (K : PySem.W.Frag) (H : Hp) : List (Str × V) → List (Str × D) → Prop
  | [], [] => True
  | p :: ps, q :: qs => p.1 = q.1 ∧ Rp K H p.2 q.2 ∧ FD K H ps qs
  | _, _ => False
theorem KD.mono {K : PySem.W.Frag} {H H' : Hp} (e : TExt K H H') : ∀ {ps : List (Key × V)} {qs : List (Key × D)}, KD K H ps qs → KD K H' ps qs
  | [], [], h => h
  | p :: ps, q :: qs, h => ⟨h.1, h.2.1.mono e, KD.mono e h.2.2⟩
  | [], _ :: _, h => h.elim
  | _ :: _, [], h => h.elim
theorem FD.mono {K : PySem.W.Frag} {H H' : Hp} (e : TExt K H H') : ∀ {ps : List (Str × V)} {qs : List (Str × D)}, FD K H ps qs → FD K H' ps qs
  | [], [], h => h
  | p :: ps, q :: qs, h => ⟨h.1, h.2.1.mono e, FD.mono e h.2.2⟩
  | [], _ :: _, h => h.elim
  | _ :: _, [], h => h.elim
def MR (K : PySem.W.Frag) (H : Hp) (a : Addr) : MO → Prop
  | .lst ds => ∃ xs, H a = some (.lst xs) ∧ RpL K H xs ds
  | .rol ds => ∃ o xs, H a = some (.frz o (.lst xs)) ∧ RpL K H xs ds
  | .dk kvs => ∃ vs, H a = some (.dK vs) ∧ KD K H vs kvs
  | .ins C fs => ∃ dx vs, H a = some (.ins C dx vs) ∧ FD K H vs fs
  | .xd fs => ∃ vs, H a = some (.xd vs) ∧ FD K H vs fs
  | .rdk kvs => ∃ o vs, H a = some (.frz o (.dK vs)) ∧ KD K H vs kvs
def HR (K : PySem.W.Frag) (H : Hp) (M : Mp) : Prop := ∀ a o, M a = some o → MR K H a o
def Sub (M M' : Mp) : Prop := ∀ a o, M a = some o → M' a = some o
theorem Sub.refl {M : Mp} : Sub M M := fun _ _ h => h
theorem Sub.trans {M1 M2 M3 : Mp} (a : Sub M1 M2) (b : Sub M2 M3) : Sub M1 M3 := fun p o h => b p o (a p o h)
theorem Sub.none {M M' : Mp} (s : Sub M M') {p : Addr} (h : M' p = .none) : M p = .none := by
  cases e : M p with
  | none => rfl
  | some o => rw [s p o e] at h; cases h
theorem Sub.put {M M' : Mp} {p : Addr} {o : MO} (s : Sub M M') (h : M' p = .none) : Sub M (DL.put M' p o) := fun a u e => by
  have e' := s a u e
  rw [put_ne]
  · exact e'
  · rintro rfl; rw [e'] at h; cases h
theorem Sub.put2 {M M' : Mp} {p : Addr} {o : MO} (s : Sub M M') (h : M p = .none) : Sub M (DL.put M' p o) := fun a u e => by
  have e' := s a u e
  rw [put_ne]
  · exact e'
  · rintro rfl; rw [e] at h; cases h
theorem Sub.both {M M' : Mp} {p : Addr} {o : MO} (s : Sub M M') : Sub (DL.put M p o) (DL.put M' p o) := fun a u e => by
  by_cases c : a = p
  · subst c; rw [put_same] at e ⊢; exact e
  · rw [put_ne c] at e ⊢; exact s a u e
theorem HR.sub {K : PySem.W.Frag} {H : Hp} {M M' : Mp} (h : HR K H M') (s : Sub M M') : HR K H M := fun a o e => h a o (s a o e)
theorem HR.free {K : PySem.W.Frag} {H : Hp} {M : Mp} (h : HR K H M) {p : Addr} (hp : H p = none) : M p = none := by
  cases e : M p with
  | none => rfl
  | some o =>
    have q := h p o e
    cases o with
    | lst ds => obtain ⟨_, q, _⟩ := q; rw [hp] at q; cases q
    | rol ds => obtain ⟨_, _, q, _⟩ := q; rw [hp] at q; cases q
    | dk ds => obtain ⟨_, q, _⟩ := q; rw [hp] at q; cases q
    | ins C ds => obtain ⟨_, _, q, _⟩ := q; rw [hp] at q; cases q
    | xd ds => obtain ⟨_, q, _⟩ := q; rw [hp] at q; cases q
    | rdk ds => obtain ⟨_, _, q, _⟩ := q; rw [hp] at q; cases q
theorem MR.away {K : PySem.W.Frag} {H : Hp} {a p : Addr} {o : MO} {u : HO} (h : MR K H a o) (e : TExt K H (upd H p u)) (ne : a ≠ p) : MR K (upd H p u) a o := by
  cases o with
  | lst ds => obtain ⟨xs, q, r⟩ := h; exact ⟨xs, (upd_ne ne).trans q, r.mono e⟩
  | rol ds => obtain ⟨o, xs, q, r⟩ := h; exact ⟨o, xs, (upd_ne ne).trans q, r.mono e⟩
  | dk ds => obtain ⟨xs, q, r⟩ := h; exact ⟨xs, (upd_ne ne).trans q, r.mono e⟩
  | ins C ds => obtain ⟨dx, xs, q, r⟩ := h; exact ⟨dx, xs, (upd_ne ne).trans q, r.mono e⟩
  | xd ds => obtain ⟨xs, q, r⟩ := h; exact ⟨xs, (upd_ne ne).trans q, r.mono e⟩
  | rdk ds => obtain ⟨o, xs, q, r⟩ := h; exact ⟨o, xs, (upd_ne ne).trans q, r.mono e⟩
theorem HR.fresh {K : PySem.W.Frag} {H : Hp} {M : Mp} {p : Addr} {u : HO} (h : HR K H M) (hp : H p = none) : HR K (upd H p u) M := fun a o e =>
  (h a o e).away (.new hp) fun z => by subst z; rw [h.free hp] at e; cases e
theorem HR.made {K : PySem.W.Frag} {H : Hp} {M : Mp} {p : Addr} {u : HO} {o : MO} (h : HR K H M) (hp : NoTup (H p)) (n : MR K (upd H p u) p o) : HR K (upd H p u) (DL.put M p o) := fun a q e => by
  by_cases c : a = p
  · subst c; rw [put_same] at e; cases e; exact n
  · rw [put_ne c] at e; exact (h a q e).away (.upd hp) c
theorem noTup_none {H : Hp} {p : Addr} (h : H p = none) : NoTup (H p) := by rw [h]; trivial
theorem noTup_lst {H : Hp} {p : Addr} {xs : List V} (h : H p = some (.lst xs)) : NoTup (H p) := by rw [h]; trivial
theorem noTup_dK {H : Hp} {p : Addr} {xs : List (Key × V)} (h : H p = some (.dK xs)) : NoTup (H p) := by rw [h]; trivial
theorem noTup_ins {H : Hp} {p C dx : Addr} {xs : List (Str × V)} (h : H p = some (.ins C dx xs)) : NoTup (H p) := by rw [h]; trivial

/-! ### readings over plain data -/
abbrev Sl := List (Option D)
/-- an exception: its class, the attributes of its own -/
structure DX where
  cls : Value
  d : Option Addr
  fs : List (Str × D)
abbrev DK := D → Mp → Prop
abbrev EK := DX → Mp → Prop
abbrev DE := Sl → Mp → DK → EK → Prop
abbrev DT := Sl → Mp → (Bool → Mp → Prop) → EK → Prop
abbrev DA := Sl → Mp → (List D → Mp → Prop) → EK → Prop
structure DN where
  nx : Sl → Mp → Prop
  rt : DK
  bk : Sl → Mp → Prop := fun _ _ => False
  ct : Sl → Mp → Prop := fun _ _ => False
  ex : DX → Sl → Mp → Prop := fun _ _ _ => False
abbrev DS := DN → Sl → Mp → Prop
/-- what is wanted of an exception; tuples of the heap h0 still stand -/
structure DW where
  h0 : Hp
  w : DX → Sl → Mp → Prop
/-- the slots -/
structure RS (K : PySem.W.Frag) (H0 H : Hp) (σ : St) (τ : Sl) : Prop where
  ext : TExt K H0 H
  len : τ.length ≤ σ.length
  at_ : ∀ (i : Nat) (d : D), τ[i]? = some (some d) → ∃ v, σ[i]? = some (some v) ∧ Rp K H v d
section
variable (K : PySem.W.Frag)
def XR (H : Hp) (cls : Value) (d : Option Addr) (x : DX) : Prop := cls = x.cls ∧ d = x.d ∧ ∀ dx, d = some dx → ∃ vs, H dx = some (.xd vs) ∧ FD K H vs x.fs
/-- what the reading of an expression says of the heap's reading -/
def KC (H : Hp) (Qd : DK) (Q : VK) : Prop := ∀ d M' v H', Qd d M' → TExt K H H' → Rp K H' v d → HR K H' M' → Q v H'
def liftE (W : DW) (t : DE) : TE := fun σ H Q => ∃ τ M Qd Ed, RS K W.h0 H σ τ ∧ HR K H M ∧ t τ M Qd Ed ∧ (∀ x M', Ed x M' → W.w x τ M') ∧ KC K H Qd Q
def liftT (W : DW) (t : DT) : TT := fun σ H Q => ∃ τ M Qd Ed, RS K W.h0 H σ τ ∧ HR K H M ∧ t τ M Qd Ed ∧ (∀ x M', Ed x M' → W.w x τ M') ∧ (∀ b M' H', Qd b M' → TExt K H H' → HR K H' M' → Q b H')
def liftA (W : DW) (t : DA) : TA := fun σ H Q => ∃ τ M Qd Ed, RS K W.h0 H σ τ ∧ HR K H M ∧ t τ M Qd Ed ∧ (∀ x M', Ed x M' → W.w x τ M') ∧ (∀ ds M' vs H', Qd ds M' → TExt K H H' → RpL K H' vs ds → HR K H' M' → Q vs H')
def liftW (W : DW) : WX := fun cls d σ H => ∃ x τ M, RS K W.h0 H σ τ ∧ HR K H M ∧ XR K H cls d x ∧ W.w x τ M
structure NC (H0 H : Hp) (Dd : DN) (De : Ends) : Prop where
  nx : ∀ τ M σ H', Dd.nx τ M → TExt K H H' → RS K H0 H' σ τ → HR K H' M → De.nx σ H'
  rt : ∀ d M v H', Dd.rt d M → TExt K H H' → Rp K H' v d → HR K H' M → De.rt v H'
  bk : ∀ τ M σ H', Dd.bk τ M → TExt K H H' → RS K H0 H' σ τ → HR K H' M → De.bk σ H'
  ct : ∀ τ M σ H', Dd.ct τ M → TExt K H H' → RS K H0 H' σ τ → HR K H' M → De.ct σ H'
def liftS (W : DW) (t : DS) : TS := fun De σ H => ∃ τ M Dd, RS K W.h0 H σ τ ∧ HR K H M ∧ t Dd τ M ∧ (∀ x τ' M', Dd.ex x τ' M' → W.w x τ' M') ∧ NC K W.h0 H Dd De
end
section
variable {K : PySem.W.Frag} {H0 H H' : Hp} {σ : St} {τ : Sl}
theorem RS.mono (e : TExt K H H') (h : RS K H0 H σ τ) : RS K H0 H' σ τ := ⟨h.ext.trans e, h.len, fun i d q => by
  obtain ⟨v, a, b⟩ := h.at_ i d q
  exact ⟨v, a, b.mono e⟩⟩
theorem NC.mono {Dd : DN} {De : Ends} (e : TExt K H H') (h : NC K H0 H Dd De) : NC K H0 H' Dd De :=
  ⟨fun τ M σ H2 q x => h.nx τ M σ H2 q (e.trans x), fun d M v H2 q x => h.rt d M v H2 q (e.trans x), fun τ M σ H2 q x => h.bk τ M σ H2 q (e.trans x), fun τ M σ H2 q x => h.ct τ M σ H2 q (e.trans x)⟩
theorem KC.mono {Qd : DK} {Q : VK} (e : TExt K H H') (h : KC K H Qd Q) : KC K H' Qd Q := fun d M v H2 q x => h d M v H2 q (e.trans x)
theorem RS.set {i : Nat} {v : V} {d : D} (h : RS K H0 H σ τ) (r : Rp K H v d) : RS K H0 H (σ.set i (some v)) (τ.set i (some d)) := ⟨h.ext, by simpa using h.len, fun j e q => by
  by_cases c : i = j
  · subst c
    by_cases hi : i < τ.length
    · rw [List.getElem?_set_self hi] at q
      cases q
      exact ⟨v, List.getElem?_set_self (Nat.lt_of_lt_of_le hi h.len), r⟩
    · rw [List.getElem?_eq_none (by simpa using hi)] at q
      cases q
  · rw [List.getElem?_set_ne c] at q ⊢
    exact h.at_ j e q⟩
end
section
variable (X : Cx) (W : DW)
structure PD (e : Expr) (t : DE) : Prop where
  run : PE X e (liftE X.K W t)
structure PTD (e : Expr) (t : DT) : Prop where
  run : PT X e (liftT X.K W t)
structure PWD (e : Expr) (t : DT) : Prop where
  run : PW X e (liftT X.K W t)
structure PAD (es : List Expr) (t : DA) : Prop where
  run : PA X es (liftA X.K W t)
structure PSD (st : Stmt) (t : DS) : Prop where
  run : PS X st (liftS X.K W t)
structure PSsD (st : List Stmt) (t : DS) : Prop where
  run : PSs X st (liftS X.K W t)
end
section
variable {X : Cx}
theorem PEimp {e : Expr} {t t' : TE} (h : PE X e t) (i : ∀ σ H Q, t' σ H Q → t σ H Q) : PE X e t' := ⟨fun pins s σ H Q I q => h.run pins s σ H Q I (i σ H Q q)⟩
theorem PTimp {e : Expr} {t t' : TT} (h : PT X e t) (i : ∀ σ H Q, t' σ H Q → t σ H Q) : PT X e t' := ⟨fun pins s σ H Q I q => h.run pins s σ H Q I (i σ H Q q)⟩
theorem PWimp {e : Expr} {t t' : TT} (h : PW X e t) (i : ∀ σ H Q, t' σ H Q → t σ H Q) : PW X e t' := ⟨fun wh pins s σ H Q I q => h.run wh pins s σ H Q I (i σ H Q q)⟩
theorem PAimp {es : List Expr} {t t' : TA} (h : PA X es t) (i : ∀ σ H Q, t' σ H Q → t σ H Q) : PA X es t' := ⟨fun pos pins s σ H Q I q => h.run pos pins s σ H Q I (i σ H Q q)⟩
theorem PSimp {e : Stmt} {t t' : TS} (h : PS X e t) (i : ∀ De σ H, t' De σ H → t De σ H) : PS X e t' := ⟨fun pins s σ H De I q => h.run pins s σ H De I (i De σ H q)⟩
theorem PSsimp {e : List Stmt} {t t' : TS} (h : PSs X e t) (i : ∀ De σ H, t' De σ H → t De σ H) : PSs X e t' := ⟨fun pins s σ H De I q => h.run pins s σ H De I (i De σ H q)⟩
end
end DL

set_option maxHeartbeats 4000000
namespace DL
open PySem L2
section
variable {X : Cx} {W : DW}

/-! ### names, constants -/
def slot (τ : Sl) (i : Nat) : Option D := (τ[i]?).join
theorem slot_eq {τ : Sl} {i : Nat} {d : D} (h : slot τ i = some d) : τ[i]? = some (some d) := by
  unfold slot at h
  cases e : τ[i]? with
  | none => rw [e] at h; cases h
  | some o => rw [e] at h; exact congrArg some h
def dVar (i : Nat) : DE := fun τ M Q _ => match slot τ i with | some d => Q d M | none => False
def dC (d : D) : DE := fun _ M Q _ => Q d M
theorem pd_var {i : Nat} {e : Expr} (h : PE X e (tVar i)) : PD X W e (dVar i) := ⟨PEimp h fun σ H Q ⟨τ, M, Qd, Ed, hs, hr, q, _, k⟩ => by
  unfold dVar at q
  split at q
  · rename_i d e
    obtain ⟨v, a, b⟩ := hs.at_ i d (slot_eq e)
    exact ⟨v, a, k d M v H q .refl b hr⟩
  · exact q.elim⟩
theorem pd_c {e : Expr} {v : V} {d : D} (h : PE X e (tC v)) (r : ∀ H, Rp X.K H v d) : PD X W e (dC d) := ⟨PEimp h fun σ H Q ⟨τ, M, Qd, Ed, hs, hr, q, _, k⟩ => k d M v H q .refl (r H) hr⟩
theorem pd_int {i j pos} : PD X W (.Constant (.int i) j pos) (dC (.int i)) := pd_c pe_int fun _ => .int i
theorem pd_bl {b j pos} : PD X W (.Constant (.bool b) j pos) (dC (.bl b)) := pd_c pe_bl fun _ => .bl b
theorem pd_non {j pos} : PD X W (.Constant .none j pos) (dC .non) := pd_c pe_non fun _ => .non
theorem pd_str {x j pos} : PD X W (.Constant (.str x) j pos) (dC (.str x)) := pd_c pe_str fun _ => .str x
/-- a slot by its place -/
theorem pdv (i : Nat) {x : Str} {pos : Pos} (hN : X.N[i]? = some x := by rfl) (hv : Vis X.env.scope x := by first | exact Or.inl rfl | exact Or.inr (Or.inl rfl) | exact Or.inr (Or.inr rfl)) (hd : (x == ("__debug__" : Str)) = false := by decide)
    (hcd : (x == ("__classdict__" : Str)) = false := by decide) : PD X W (.Name x pos) (dVar i) := pd_var (pe_var hN hv hd hcd)

/-! ### operators by values -/
abbrev DO := D → D → Mp → DK → Prop
def liftO (K : PySem.W.Frag) (g : DO) : R2 := fun x y H Q => ∃ dx dy M Qd, g dx dy M Qd ∧ Rp K H x dx ∧ Rp K H y dy ∧ HR K H M ∧ KC K H Qd Q
def dOp (g : DO) (ta tb : DE) : DE := fun τ M Q E => ta τ M (fun x M1 => tb τ M1 (fun y M2 => g x y M2 Q) E) E
theorem dOp_lift {g : DO} {ta tb : DE} {σ : St} {H : Hp} {Q : VK} (h : liftE X.K W (dOp g ta tb) σ H Q) : tOp (liftO X.K g) (liftE X.K W ta) (liftE X.K W tb) σ H Q := by
  obtain ⟨τ, M, Qd, Ed, hs, hr, q, we, k⟩ := h
  refine ⟨τ, M, _, Ed, hs, hr, q, we, fun x M1 v H1 q1 e1 r1 h1 => ⟨τ, M1, _, Ed, hs.mono e1, h1, q1, we, fun y M2 u H2 q2 e2 r2 h2 => ?_⟩⟩
  exact ⟨x, y, M2, Qd, q2, r1.mono e2, r2, h2, k.mono (e1.trans e2)⟩
theorem pd_op {op : Operator} {g : DO} {a b : Expr} {ta tb : DE} {pos : Pos} (ho : OpR X (binaryOp op) (liftO X.K g)) (ha : PD X W a ta) (hb : PD X W b tb) : PD X W (.BinOp a op b pos) (dOp g ta tb) :=
  ⟨PEimp (pe_op ho ha.run hb.run) fun _ _ _ h => dOp_lift h⟩
theorem OpRimp {f : Value → Value → Sem Value} {r r' : R2} (h : OpR X f r) (i : ∀ x y H Q, r' x y H Q → r x y H Q) : OpR X f r' := fun pins s σ H x y v u Q I rx ry q => h pins s σ H x y v u Q I rx ry (i x y H Q q)
/-- an operator whose reading is one of two -/
theorem liftO_or {f : Value → Value → Sem Value} {g g1 g2 : DO} (h1 : OpR X f (liftO X.K g1)) (h2 : OpR X f (liftO X.K g2)) (h : ∀ x y M Q, g x y M Q → g1 x y M Q ∨ g2 x y M Q) : OpR X f (liftO X.K g) :=
  OpRimp (h1.or h2) fun x y H Q ⟨dx, dy, M, Qd, q, a, b, c, k⟩ => (h dx dy M Qd q).elim (fun z => .inl ⟨dx, dy, M, Qd, z, a, b, c, k⟩) fun z => .inr ⟨dx, dy, M, Qd, z, a, b, c, k⟩
theorem Rp.toInt {K : PySem.W.Frag} {H : Hp} {v : V} {i : Int} (h : Rp K H v (.int i)) : v = .int i := by cases h; rfl
theorem Rp.toStr {K : PySem.W.Frag} {H : Hp} {v : V} {i : Str} (h : Rp K H v (.str i)) : v = .str i := by cases h; rfl
theorem Rp.toBl {K : PySem.W.Frag} {H : Hp} {v : V} {i : Bool} (h : Rp K H v (.bl i)) : v = .bl i := by cases h; rfl
theorem Rp.toRef {K : PySem.W.Frag} {H : Hp} {v : V} {i : Addr} (h : Rp K H v (.ref i)) : v = .ref i := by cases h; rfl
theorem Rp.toTy {K : PySem.W.Frag} {H : Hp} {v : V} {i : String} (h : Rp K H v (.ty i)) : v = .ty i := by cases h; rfl
theorem Rp.toNon {K : PySem.W.Frag} {H : Hp} {v : V} (h : Rp K H v .non) : v = .non := by cases h; rfl
theorem Rp.toTup {K : PySem.W.Frag} {H : Hp} {v : V} {ds : List D} (h : Rp K H v (.tup ds)) : ∃ a xs, v = .ref a ∧ SqT K H a xs ∧ RpL K H xs ds := by
  cases h with
  | tup s l => exact ⟨_, _, rfl, s, l⟩
theorem HR.lst {K : PySem.W.Frag} {H : Hp} {M : Mp} {a : Addr} {ds : List D} (h : HR K H M) (e : M a = some (.lst ds)) : ∃ xs, H a = some (.lst xs) ∧ RpL K H xs ds := h a _ e
theorem HR.dk {K : PySem.W.Frag} {H : Hp} {M : Mp} {a : Addr} {ds : List (Key × D)} (h : HR K H M) (e : M a = some (.dk ds)) : ∃ xs, H a = some (.dK xs) ∧ KD K H xs ds := h a _ e
theorem HR.ins {K : PySem.W.Frag} {H : Hp} {M : Mp} {a C : Addr} {ds : List (Str × D)} (h : HR K H M) (e : M a = some (.ins C ds)) : ∃ dx xs, H a = some (.ins C dx xs) ∧ FD K H xs ds := h a _ e
/-- a new tuple -/
theorem KC.tup {K : PySem.W.Frag} {H : Hp} {M : Mp} {Qd : DK} {Q : VK} {xs : List V} {ds : List D} {p : Addr} (k : KC K H Qd Q) (hr : HR K H M) (l : RpL K H xs ds) (hp : H p = none) (q : Qd (.tup ds) M) : Q (.ref p) (upd H p (.tup xs)) :=
  k _ M _ _ q (.new hp) (.tup (.of upd_same) (l.mono (.new hp))) (hr.fresh hp)
/-- a new list -/
theorem KC.lst {K : PySem.W.Frag} {H : Hp} {M : Mp} {Qd : DK} {Q : VK} {xs : List V} {ds : List D} {p : Addr} (k : KC K H Qd Q) (hr : HR K H M) (l : RpL K H xs ds) (hp : H p = none) (q : ∀ p, M p = none → Qd (.ref p) (put M p (.lst ds))) : Q (.ref p) (upd H p (.lst xs)) :=
  k _ _ _ _ (q p (hr.free hp)) (.new hp) (.ref p) (hr.made (noTup_none hp) ⟨xs, upd_same, l.mono (.new hp)⟩)

/-- two ints -/
def oI (C : Int → Int → Prop) (f : Int → Int → D) : DO := fun x y M Q => match x, y with | .int i, .int j => C i j ∧ Q (f i j) M | _, _ => False
def oI0 (f : Int → Int → D) : DO := fun x y M Q => match x, y with | .int i, .int j => Q (f i j) M | _, _ => False
theorem oI_of {f : Value → Value → Sem Value} {C : Int → Int → Prop} {g : Int → Int → V} {gd : Int → Int → D} (h : OpR X f (rI C g)) (hg : ∀ i j H, Rp X.K H (g i j) (gd i j)) : OpR X f (liftO X.K (oI C gd)) :=
  OpRimp h fun x y H Q ⟨dx, dy, M, Qd, q, a, b, c, k⟩ => by
    unfold oI at q
    split at q
    · rename_i i j
      exact ⟨i, j, a.toInt, b.toInt, q.1, k _ M _ H q.2 .refl (hg i j H) c⟩
    · exact q.elim
theorem oI0_of {f : Value → Value → Sem Value} {g : Int → Int → V} {gd : Int → Int → D} (h : OpR X f (rI0 g)) (hg : ∀ i j H, Rp X.K H (g i j) (gd i j)) : OpR X f (liftO X.K (oI0 gd)) :=
  OpRimp h fun x y H Q ⟨dx, dy, M, Qd, q, a, b, c, k⟩ => by
    unfold oI0 at q
    split at q
    · rename_i i j
      exact ⟨i, j, a.toInt, b.toInt, k _ M _ H q .refl (hg i j H) c⟩
    · exact q.elim
/-- + -/
def addD : DO := fun x y M Q => match x, y with
  | .int i, .int j => Q (.int (i + j)) M
  | .str i, .str j => i.length + j.length ≤ sizeLine ∧ Q (.str (i ++ j)) M
  | .tup xs, .tup ys => xs.length + ys.length ≤ sizeLine ∧ Q (.tup (xs ++ ys)) M
  | .ref a, .ref b => match M a, M b with
    | some (.lst xs), some (.lst ys) => xs.length + ys.length ≤ sizeLine ∧ ∀ p, M p = none → Q (.ref p) (put M p (.lst (xs ++ ys)))
    | _, _ => False
  | _, _ => False
theorem op_addD : OpR X (binaryOp .Add) (liftO X.K addD) :=
  OpRimp ((op_add (X := X)).or ((op_add_str (X := X)).or ((op_catA (X := X)).or (op_cat (X := X))))) fun x y H Q ⟨dx, dy, M, Qd, q, a, b, c, k⟩ => by
    unfold addD at q
    split at q
    · exact .inl ⟨_, _, a.toInt, b.toInt, k _ M _ H q .refl (.int _) c⟩
    · exact .inr (.inl ⟨_, _, a.toStr, b.toStr, q.1, k _ M _ H q.2 .refl (.str _) c⟩)
    · rename_i xs ys
      obtain ⟨pa, va, rfl, sa, la⟩ := a.toTup
      obtain ⟨pb, vb, rfl, sb, lb⟩ := b.toTup
      refine .inr (.inr (.inl ⟨pa, pb, va, vb, rfl, rfl, sa, sb, by rw [la.length, lb.length]; exact q.1, fun e => ?_, fun _ e => ?_, fun _ _ p hp => k.tup c (la.append lb) hp q.2⟩))
      · subst e
        have e' : xs = [] := by cases la; rfl
        subst e'
        exact k _ M _ H q.2 .refl (.tup sb (by simpa using lb)) c
      · subst e
        have e' : ys = [] := by cases lb; rfl
        subst e'
        exact k _ M _ H q.2 .refl (.tup sa (by simpa using la)) c
    · rename_i pa pb
      split at q
      · rename_i xs ys e1 e2
        obtain ⟨va, ha, la⟩ := c.lst e1
        obtain ⟨vb, hb, lb⟩ := c.lst e2
        exact .inr (.inr (.inr ⟨pa, pb, va, vb, a.toRef, b.toRef, ha, hb, by rw [la.length, lb.length]; exact q.1, fun p hp => k.lst c (la.append lb) hp q.2⟩))
      · exact q.elim
    · exact q.elim
theorem op_subD : OpR X (binaryOp .Sub) (liftO X.K (oI0 fun i j => .int (i - j))) := oI0_of op_sub fun _ _ _ => .int _
theorem op_fdivD : OpR X (binaryOp .FloorDiv) (liftO X.K (oI CDivW fun i j => .int (i / j))) := oI_of op_fdivW fun _ _ _ => .int _
theorem op_modD : OpR X (binaryOp .Mod) (liftO X.K (oI (fun _ j => 0 < j) fun i j => .int (i % j))) := oI_of op_mod fun _ _ _ => .int _
theorem op_powD : OpR X (binaryOp .Pow) (liftO X.K (oI CPow fun i j => .int (i ^ j.toNat))) := oI_of op_pow fun _ _ _ => .int _
end
end DL

set_option maxHeartbeats 4000000
namespace DL
open PySem L2

/-! ### plain data as the library's data; Python's == -/
mutual
def toP : D → PyData
  | .non => .none
  | .bl b => .bool b
  | .int i => .int i
  | .str x => .str x
  | .tup xs => .tuple (toPL xs)
  | .ref _ => .none
  | .ty _ => .none
def toPL : List D → List PyData
  | [] => []
  | d :: ds => toP d :: toPL ds
end
mutual
/-- no addresses, no classes; signs as they may be -/
def ok : D → Bool
  | .str x => x.cps.all (· < 0x110000)
  | .tup xs => okL xs
  | .ref _ => false
  | .ty _ => false
  | .non => true
  | .bl _ => true
  | .int _ => true
def okL : List D → Bool
  | [] => true
  | d :: ds => ok d && okL ds
end
mutual
def dep : D → Nat
  | .tup xs => depL xs + 1
  | .non => 0
  | .bl _ => 0
  | .int _ => 0
  | .str _ => 0
  | .ref _ => 0
  | .ty _ => 0
def depL : List D → Nat
  | [] => 0
  | d :: ds => max (dep d) (depL ds)
end
mutual
def eqb : D → D → Bool
  | .non, y => match y with | .non => true | _ => false
  | .bl a, y => match y with | .bl b => a == b | .int j => (if a then 1 else 0) == j | _ => false
  | .int i, y => match y with | .bl b => i == (if b then 1 else 0) | .int j => i == j | _ => false
  | .str a, y => match y with | .str b => a == b | _ => false
  | .tup xs, y => match y with | .tup ys => eqbL xs ys | _ => false
  | .ref _, _ => false
  | .ty _, _ => false
def eqbL : List D → List D → Bool
  | [], ys => match ys with | [] => true | _ => false
  | x :: xs, ys => match ys with | y :: ys => eqb x y && eqbL xs ys | _ => false
end
mutual
theorem eqv_toP : ∀ (x y : D), ok x = true → ok y = true → PyData.eqv (toP x) (toP y) = eqb x y
  | .non, y, h, k => by cases y <;> simp_all [toP, eqb, PyData.eqv, ok]
  | .bl _, y, h, k => by cases y <;> simp_all [toP, eqb, PyData.eqv, ok]
  | .int _, y, h, k => by cases y <;> simp_all [toP, eqb, PyData.eqv, ok]
  | .str _, y, h, k => by cases y <;> simp_all [toP, eqb, PyData.eqv, ok]
  | .ref _, y, h, k => by simp [ok] at h
  | .ty _, y, h, k => by simp [ok] at h
  | .tup xs, y, h, k => by
    cases y with
    | tup ys =>
      have q := eqvL_toP xs ys (by simpa [ok] using h) (by simpa [ok] using k)
      simpa [toP, eqb, PyData.eqv] using q
    | ref _ => simp [ok] at k
    | ty _ => simp [ok] at k
    | _ => simp [toP, eqb, PyData.eqv]
theorem eqvL_toP : ∀ (xs ys : List D), okL xs = true → okL ys = true → PyData.eqvAll (toPL xs) (toPL ys) = eqbL xs ys
  | [], [], _, _ => by simp [toPL, eqbL, PyData.eqvAll]
  | [], _ :: _, _, _ => by simp [toPL, eqbL, PyData.eqvAll]
  | _ :: _, [], _, _ => by simp [toPL, eqbL, PyData.eqvAll]
  | x :: xs, y :: ys, h, k => by
    have h' : ok x = true ∧ okL xs = true := by simpa [okL] using h
    have k' : ok y = true ∧ okL ys = true := by simpa [okL] using k
    simp [toPL, eqbL, PyData.eqvAll, eqv_toP x y h'.1 k'.1, eqvL_toP xs ys h'.2 k'.2]
end
mutual
theorem lay_toP : ∀ (x : D), ok x = true → (toP x).canLay0 = true
  | .non, h => by simp [toP, PyData.canLay0]
  | .bl _, h => by simp [toP, PyData.canLay0]
  | .int _, h => by simp [toP, PyData.canLay0]
  | .str _, h => by simpa [toP, PyData.canLay0, PyData.strOk, ok] using h
  | .ref _, h => by simp [ok] at h
  | .ty _, h => by simp [ok] at h
  | .tup xs, h => by
    have q := layL_toP xs (by simpa [ok] using h)
    simpa [toP, PyData.canLay0] using q
theorem layL_toP : ∀ (xs : List D), okL xs = true → PyData.canLayAll0 (toPL xs) = true
  | [], _ => by simp [toPL, PyData.canLayAll0]
  | x :: xs, h => by
    have h' : ok x = true ∧ okL xs = true := by simpa [okL] using h
    simp [toPL, PyData.canLayAll0, lay_toP x h'.1, layL_toP xs h'.2]
end
mutual
theorem dep_toP : ∀ (x : D), (toP x).depth = dep x
  | .non => by simp [toP, PyData.depth, dep]
  | .bl _ => by simp [toP, PyData.depth, dep]
  | .int _ => by simp [toP, PyData.depth, dep]
  | .str _ => by simp [toP, PyData.depth, dep]
  | .ref _ => by simp [toP, PyData.depth, dep]
  | .ty _ => by simp [toP, PyData.depth, dep]
  | .tup xs => by simp [toP, PyData.depth, dep, depL_toP xs]
theorem depL_toP : ∀ (xs : List D), PyData.depthAll (toPL xs) = depL xs
  | [] => by simp [toPL, PyData.depthAll, depL]
  | x :: xs => by simp [toPL, PyData.depthAll, depL, dep_toP x, depL_toP xs]
end
mutual
theorem dp_of {K : PySem.W.Frag} {H : Hp} : ∀ {v : V} {d : D}, Rp K H v d → ok d = true → Dp K H v (toP d)
  | _, _, .non, _ => by simpa [toP] using Dp.non
  | _, _, .bl b, _ => by simpa [toP] using Dp.bl b
  | _, _, .int b, _ => by simpa [toP] using Dp.int b
  | _, _, .str b, _ => by simpa [toP] using Dp.str b
  | _, _, .ref b, h => by simp [ok] at h
  | _, _, .ty b, h => by simp [ok] at h
  | _, _, .tup s l, h => by simpa [toP] using Dp.tup s (dpL_of l (by simpa [ok] using h))
theorem dpL_of {K : PySem.W.Frag} {H : Hp} : ∀ {v : List V} {d : List D}, RpL K H v d → okL d = true → DpAll K H v (toPL d)
  | _, _, .nil, _ => by simpa [toPL] using DpAll.nil
  | _, _, .cons r l, h => by
    rename_i d _ ds
    have h' : ok d = true ∧ okL ds = true := by simpa [okL] using h
    simpa [toPL] using DpAll.cons (dp_of r h'.1) (dpL_of l h'.2)
end
section
variable {X : Cx} {W : DW}
/-- what both sides of == are asked -/
def eqOk (x y : D) : Prop := ok x = true ∧ ok y = true ∧ min (dep x) (dep y) ≤ 200
def eqG (n : Bool) : DO := fun x y M Q => match x, y with
  | .int i, .int j => Q (.bl (n != decide (i = j))) M
  | .str i, .str j => Q (.bl (n != decide (i = j))) M
  | .ref a, .ref b => match M a, M b with
    | some (.lst xs), some (.lst ys) => okL xs = true ∧ okL ys = true ∧ min (depL xs) (depL ys) ≤ 199 ∧ Q (.bl (n != eqbL xs ys)) M
    | _, _ => False
  | x, y => eqOk x y ∧ Q (.bl (n != eqb x y)) M
abbrev eqD : DO := eqG false
abbrev neD : DO := eqG true
def rDeep (K : PySem.W.Frag) (n : Bool) : R2 := fun x y H Q => ∃ d e, Dp K H x d ∧ Dp K H y e ∧ d.canLay0 = true ∧ e.canLay0 = true ∧ min d.depth e.depth ≤ 200 ∧ Q (.bl (n != PyData.eqv d e)) H
theorem op_deepE (hu : X.A.units + 200 < cLine) : OpR X (compareOp .Eq) (rDeep X.K false) := by
  intro pins s σ H x y v u Q I rx ry ⟨d, e, hd, he, sd, se, dm, q⟩
  obtain ⟨as, r1⟩ := Dp.reads I d x v hd rx
  obtain ⟨bs, r2⟩ := Dp.reads I e y u he ry
  exact SeqAt.compareEq_reads r1 r2 sd se (by omega) ⟨.bl _, H, I, rfl, by simpa using q⟩
theorem op_deepN (hu : X.A.units + 200 < cLine) : OpR X (compareOp .NotEq) (rDeep X.K true) := by
  intro pins s σ H x y v u Q I rx ry ⟨d, e, hd, he, sd, se, dm, q⟩
  obtain ⟨as, r1⟩ := Dp.reads I d x v hd rx
  obtain ⟨bs, r2⟩ := Dp.reads I e y u he ry
  exact SeqAt.compareNe_reads r1 r2 sd se (by omega) ⟨.bl _, H, I, rfl, by simpa using q⟩
def rScal (n : Bool) : R2 := fun x y H Q => (∃ i j : Int, x = .int i ∧ y = .int j ∧ Q (.bl (n != decide (i = j))) H) ∨ (∃ i j : Str, x = .str i ∧ y = .str j ∧ Q (.bl (n != decide (i = j))) H)
theorem dInt {i j : Int} : decide (V.int i = V.int j) = decide (i = j) := by
  by_cases h : i = j
  · subst h; simp
  · simp [h]
theorem dStr {i j : Str} : decide (V.str i = V.str j) = decide (i = j) := by
  by_cases h : i = j
  · subst h; simp
  · simp [h]
theorem op_scalE : OpR X (compareOp .Eq) (rScal false) := OpRimp op_eq fun x y H Q h => by
  rcases h with ⟨i, j, rfl, rfl, q⟩ | ⟨i, j, rfl, rfl, q⟩
  · exact ⟨rfl, by rw [dInt]; simpa using q⟩
  · exact ⟨rfl, by rw [dStr]; simpa using q⟩
theorem op_scalN : OpR X (compareOp .NotEq) (rScal true) := OpRimp op_ne fun x y H Q h => by
  rcases h with ⟨i, j, rfl, rfl, q⟩ | ⟨i, j, rfl, rfl, q⟩
  · exact ⟨rfl, by rw [dInt]; simpa using q⟩
  · exact ⟨rfl, by rw [dStr]; simpa using q⟩
theorem eqG_of {f : Value → Value → Sem Value} {n : Bool} (h1 : OpR X f (rScal n)) (h2 : OpR X f (rDeep X.K n)) : OpR X f (liftO X.K (eqG n)) :=
  OpRimp (h1.or h2) fun x y H Q ⟨dx, dy, M, Qd, q, a, b, c, k⟩ => by
    unfold eqG at q
    split at q
    · exact .inl (.inl ⟨_, _, a.toInt, b.toInt, k _ M _ H q .refl (.bl _) c⟩)
    · exact .inl (.inr ⟨_, _, a.toStr, b.toStr, k _ M _ H q .refl (.bl _) c⟩)
    · rename_i pa pb
      split at q
      · rename_i xs ys e1 e2
        obtain ⟨va, ha, la⟩ := c.lst e1
        obtain ⟨vb, hb, lb⟩ := c.lst e2
        have ra := a.toRef
        have rb := b.toRef
        subst ra; subst rb
        refine .inr ⟨_, _, .lst (SqL.of ha) (dpL_of la q.1), .lst (SqL.of hb) (dpL_of lb q.2.1), by simpa [PyData.canLay0] using layL_toP _ q.1, by simpa [PyData.canLay0] using layL_toP _ q.2.1, ?_, ?_⟩
        · have := q.2.2.1
          simp only [PyData.depth, depL_toP]
          omega
        · refine k _ M _ H ?_ .refl (.bl _) c
          have := q.2.2.2
          rw [← eqvL_toP xs ys q.1 q.2.1] at this
          simpa [PyData.eqv] using this
      · exact q.elim
    · obtain ⟨⟨o1, o2, dm⟩, q⟩ := q
      refine .inr ⟨_, _, dp_of a o1, dp_of b o2, lay_toP _ o1, lay_toP _ o2, by rw [dep_toP, dep_toP]; exact dm, ?_⟩
      rw [eqv_toP _ _ o1 o2]
      exact k _ M _ H q .refl (.bl _) c
theorem op_eqG (hu : X.A.units + 200 < cLine) : OpR X (compareOp .Eq) (liftO X.K eqD) := eqG_of op_scalE (op_deepE hu)
theorem op_neG (hu : X.A.units + 200 < cLine) : OpR X (compareOp .NotEq) (liftO X.K neD) := eqG_of op_scalN (op_deepN hu)
theorem Room.u200 {k : Nat} {A : Around} (r : Room k A) : A.units + 200 < cLine := by have := r.un; omega

/-! ### < and the like, is -/
theorem op_ltD : OpR X (compareOp .Lt) (liftO X.K (oI0 fun i j => .bl (decide (i < j)))) := oI0_of op_lt fun _ _ _ => .bl _
theorem op_leD : OpR X (compareOp .LtE) (liftO X.K (oI0 fun i j => .bl (decide (i ≤ j)))) := oI0_of op_le fun _ _ _ => .bl _
theorem op_gtD : OpR X (compareOp .Gt) (liftO X.K (oI0 fun i j => .bl (decide (j < i)))) := oI0_of op_gt fun _ _ _ => .bl _
theorem op_geD : OpR X (compareOp .GtE) (liftO X.K (oI0 fun i j => .bl (decide (j ≤ i)))) := oI0_of op_ge fun _ _ _ => .bl _
def isNone : D → Bool
  | .non => true
  | _ => false
/-- is None; is of two bools -/
def isG (n : Bool) : DO := fun x y M Q => match y with
  | .non => Q (.bl (n != isNone x)) M
  | .bl b => match x with
    | .bl a => Q (.bl (n != decide (a = b))) M
    | _ => False
  | _ => False
theorem isNone_of {K : PySem.W.Frag} {H : Hp} {v : V} {d : D} (r : Rp K H v d) : decide (v = .non) = isNone d := by
  cases r <;> simp [isNone]
theorem op_isG : OpR X (compareOp .Is) (liftO X.K (isG false)) :=
  OpRimp ((op_isN (X := X)).or (op_isBl (X := X))) fun x y H Q ⟨dx, dy, M, Qd, q, a, b, c, k⟩ => by
    unfold isG at q
    split at q
    · exact .inl ⟨b.toNon, by rw [isNone_of a]; exact k _ M _ H (by simpa using q) .refl (.bl _) c⟩
    · split at q
      · exact .inr ⟨_, _, a.toBl, b.toBl, k _ M _ H (by simpa using q) .refl (.bl _) c⟩
      · exact q.elim
    · exact q.elim
theorem op_isNotG : OpR X (compareOp .IsNot) (liftO X.K (isG true)) :=
  OpRimp ((op_notN (X := X)).or (op_notBl (X := X))) fun x y H Q ⟨dx, dy, M, Qd, q, a, b, c, k⟩ => by
    unfold isG at q
    split at q
    · exact .inl ⟨b.toNon, by rw [isNone_of a]; exact k _ M _ H (by simpa using q) .refl (.bl _) c⟩
    · split at q
      · exact .inr ⟨_, _, a.toBl, b.toBl, k _ M _ H (by simpa using q) .refl (.bl _) c⟩
      · exact q.elim
    · exact q.elim

/-! ### comparisons and tests -/
theorem pd_cmp {op : CmpOp} {g : DO} {a b : Expr} {ta tb : DE} {pos : Pos} (ho : OpR X (compareOp op) (liftO X.K g)) (ha : PD X W a ta) (hb : PD X W b tb) (hm : behindInMarks op b = false) : PD X W (.Compare a [op] [b] pos) (dOp g ta tb) :=
  ⟨PEimp (pe_cmpR ho ha.run hb.run hm) fun _ _ _ h => dOp_lift h⟩
/-- a value that is a bool, as a test -/
def dB (t : DE) : DT := fun τ M Q E => t τ M (fun d M1 => match d with | .bl b => Q b M1 | _ => False) E
theorem dB_lift {t : DE} {σ : St} {H : Hp} {Q : Bool → Hp → Prop} (h : liftT X.K W (dB t) σ H Q) : liftE X.K W t σ H (fun x H1 => ∃ k, x = .bl k ∧ Q k H1) := by
  obtain ⟨τ, M, Qd, Ed, hs, hr, q, we, k⟩ := h
  refine ⟨τ, M, _, Ed, hs, hr, q, we, fun d M1 v H1 q1 e1 r1 h1 => ?_⟩
  dsimp only at q1
  split at q1
  · exact ⟨_, r1.toBl, k _ M1 H1 q1 e1 h1⟩
  · exact q1.elim
theorem pt_cmpD {op : CmpOp} {g : DO} {a b : Expr} {ta tb : DE} {pos : Pos} (ho : OpR X (compareOp op) (liftO X.K g)) (ha : PD X W a ta) (hb : PD X W b tb) (hm : behindInMarks op b = false) : PTD X W (.Compare a [op] [b] pos) (dB (dOp g ta tb)) :=
  ⟨PTimp (pt_cmpR ho ha.run hb.run hm) fun σ H Q h => dOp_lift (Q := fun x H1 => ∃ k, x = .bl k ∧ Q k H1) (W := W) (by
    obtain ⟨τ, M, Qd, Ed, hs, hr, q, we, k⟩ := h
    exact ⟨τ, M, _, Ed, hs, hr, q, we, fun d M1 v H1 q1 e1 r1 h1 => by
      dsimp only at q1
      split at q1
      · exact ⟨_, r1.toBl, k _ M1 H1 q1 e1 h1⟩
      · exact q1.elim⟩)⟩
theorem ptd_val {e : Expr} {t : DE} (h : PD X W e t) (he : ∀ whole, isTrue e X.env whole = (do let v ← whole; standAt e.pos; holding [v] (truthy v)) := by intro _; rfl) : PTD X W e (dB t) :=
  ⟨PTimp (pt_val h.run he) fun σ H Q h => dB_lift h⟩
/-- a value by its truth -/
def truD (d : D) (M : Mp) : Option Bool := match d with
  | .non => some false
  | .bl b => some b
  | .int i => some (i != 0)
  | .str x => if x.length ≤ sizeLine then some ((x.length : Int) != 0) else none
  | .tup xs => some (!xs.isEmpty)
  | .ref a => match M a with
    | some (.lst xs) => some (!xs.isEmpty)
    | some (.dk xs) => some (!xs.isEmpty)
    | _ => none
  | .ty _ => none
def dTru (t : DE) : DT := fun τ M Q E => t τ M (fun d M1 => match truD d M1 with | some b => Q b M1 | none => False) E
theorem KD.isEmpty {K : PySem.W.Frag} {H : Hp} {ps : List (Key × V)} {qs : List (Key × D)} (h : KD K H ps qs) : ps.isEmpty = qs.isEmpty := by
  cases ps <;> cases qs <;> first | rfl | exact h.elim
theorem truD_ok {K : PySem.W.Frag} {H : Hp} {M : Mp} {v : V} {d : D} {b : Bool} (r : Rp K H v d) (hr : HR K H M) (h : truD d M = some b) : TruV K v H b := by
  cases d with
  | non => cases r; exact (Option.some.inj h).symm
  | bl b => cases r; exact (Option.some.inj h).symm
  | int i => cases r; exact (Option.some.inj h).symm
  | str x =>
    cases r
    unfold truD at h
    by_cases c : x.length ≤ sizeLine
    · simp only [c, if_true] at h
      exact ⟨c, (Option.some.inj h).symm⟩
    · simp [c] at h
  | tup xs =>
    obtain ⟨a, vs, rfl, s, l⟩ := r.toTup
    exact .inr (.inl ⟨vs, s, by rw [l.isEmpty]; exact (Option.some.inj h).symm⟩)
  | ref a =>
    cases r
    have h' : (match M a with | some (.lst xs) => some (!xs.isEmpty) | some (.dk xs) => some (!xs.isEmpty) | _ => none) = some b := h
    cases e : M a with
    | none => rw [e] at h'; cases h'
    | some o =>
      rw [e] at h'
      cases o with
      | lst xs =>
        obtain ⟨vs, hv, l⟩ := hr.lst e
        exact .inl ⟨vs, SqL.of hv, by rw [l.isEmpty]; exact (Option.some.inj h').symm⟩
      | dk xs =>
        obtain ⟨vs, hv, l⟩ := hr.dk e
        exact .inr (.inr ⟨vs, hv, by rw [l.isEmpty]; exact (Option.some.inj h').symm⟩)
      | rol xs => cases h'
      | ins C xs => cases h'
      | xd xs => cases h'
      | rdk xs => cases h'
  | ty n => cases h
theorem ptd_tru {e : Expr} {t : DE} (h : PD X W e t) (he : ∀ whole, isTrue e X.env whole = (do let v ← whole; standAt e.pos; holding [v] (truthy v)) := by intro _; rfl) : PTD X W e (dTru t) :=
  ⟨PTimp (pt_truth h.run he) fun σ H Q ⟨τ, M, Qd, Ed, hs, hr, q, we, k⟩ => ⟨τ, M, _, Ed, hs, hr, q, we, fun d M1 v H1 q1 e1 r1 h1 => by
    dsimp only at q1
    split at q1
    · rename_i b eb
      exact ⟨b, truD_ok r1 h1 eb, k b M1 H1 q1 e1 h1⟩
    · exact q1.elim⟩⟩
def dAnd (t u : DT) : DT := fun τ M Q E => t τ M (fun c M1 => if c = true then u τ M1 Q E else Q false M1) E
def dOr (t u : DT) : DT := fun τ M Q E => t τ M (fun c M1 => if c = true then Q true M1 else u τ M1 Q E) E
def dNot (t : DT) : DT := fun τ M Q E => t τ M (fun c M1 => Q (!c) M1) E
section
variable {a b : Expr} {rest : List Expr} {t u : DT} {pos : Pos} {te ue : DE}
theorem PWD.pt {e : Expr} {t : DT} (h : PWD X W e t) : PTD X W e t := ⟨h.run.pt⟩
theorem pwd_and1 (h : PTD X W a t) : PWD X W (.BoolOp .And [a] pos) t := ⟨pw_and1 h.run⟩
theorem pwd_or1 (h : PTD X W a t) : PWD X W (.BoolOp .Or [a] pos) t := ⟨pw_or1 h.run⟩
theorem pwd_and (h : PTD X W a t) (hb : PWD X W (.BoolOp .And (b :: rest) pos) u) : PWD X W (.BoolOp .And (a :: b :: rest) pos) (dAnd t u) :=
  ⟨PWimp (pw_and h.run hb.run) fun σ H Q ⟨τ, M, Qd, Ed, hs, hr, q, we, k⟩ => ⟨τ, M, _, Ed, hs, hr, q, we, fun c M1 H1 q1 e1 h1 => by
    cases c with
    | true => exact ⟨τ, M1, Qd, Ed, hs.mono e1, h1, q1, we, fun b M2 H2 q2 e2 h2 => k b M2 H2 q2 (e1.trans e2) h2⟩
    | false => exact k false M1 H1 (by simpa using q1) e1 h1⟩⟩
theorem pwd_or (h : PTD X W a t) (hb : PWD X W (.BoolOp .Or (b :: rest) pos) u) : PWD X W (.BoolOp .Or (a :: b :: rest) pos) (dOr t u) :=
  ⟨PWimp (pw_or h.run hb.run) fun σ H Q ⟨τ, M, Qd, Ed, hs, hr, q, we, k⟩ => ⟨τ, M, _, Ed, hs, hr, q, we, fun c M1 H1 q1 e1 h1 => by
    cases c with
    | true => exact k true M1 H1 q1 e1 h1
    | false => exact ⟨τ, M1, Qd, Ed, hs.mono e1, h1, (by simpa using q1), we, fun b M2 H2 q2 e2 h2 => k b M2 H2 q2 (e1.trans e2) h2⟩⟩⟩
theorem ptd_not (h : PTD X W a t) : PTD X W (.UnaryOp .Not a pos) (dNot t) :=
  ⟨PTimp (pt_not h.run) fun σ H Q ⟨τ, M, Qd, Ed, hs, hr, q, we, k⟩ => ⟨τ, M, _, Ed, hs, hr, q, we, fun c M1 H1 q1 e1 h1 => k _ M1 H1 q1 e1 h1⟩⟩
/-- .. as values, all but the last bools -/
def dAndV (t u : DE) : DE := fun τ M Q E => t τ M (fun d M1 => match d with | .bl c => if c = true then u τ M1 Q E else Q (.bl false) M1 | _ => False) E
def dOrV (t u : DE) : DE := fun τ M Q E => t τ M (fun d M1 => match d with | .bl c => if c = true then Q (.bl true) M1 else u τ M1 Q E | _ => False) E
def dNotV (t : DE) : DE := fun τ M Q E => t τ M (fun d M1 => match d with | .bl c => Q (.bl (!c)) M1 | _ => False) E
theorem pd_one {op : BoolOp} (h : PD X W a te) : PD X W (.BoolOp op [a] pos) te := ⟨pe_one h.run⟩
theorem pd_and (h : PD X W a te) (hb : PD X W (.BoolOp .And (b :: rest) pos) ue) : PD X W (.BoolOp .And (a :: b :: rest) pos) (dAndV te ue) :=
  ⟨PEimp (pe_and h.run hb.run) fun σ H Q ⟨τ, M, Qd, Ed, hs, hr, q, we, k⟩ => ⟨τ, M, _, Ed, hs, hr, q, we, fun d M1 v H1 q1 e1 r1 h1 => by
    dsimp only at q1
    split at q1
    · rename_i c
      refine ⟨c, r1.toBl, ?_⟩
      cases c with
      | true => exact ⟨τ, M1, Qd, Ed, hs.mono e1, h1, q1, we, k.mono e1⟩
      | false => exact k _ M1 _ H1 (by simpa using q1) e1 (.bl _) h1
    · exact q1.elim⟩⟩
theorem pd_or (h : PD X W a te) (hb : PD X W (.BoolOp .Or (b :: rest) pos) ue) : PD X W (.BoolOp .Or (a :: b :: rest) pos) (dOrV te ue) :=
  ⟨PEimp (pe_or h.run hb.run) fun σ H Q ⟨τ, M, Qd, Ed, hs, hr, q, we, k⟩ => ⟨τ, M, _, Ed, hs, hr, q, we, fun d M1 v H1 q1 e1 r1 h1 => by
    dsimp only at q1
    split at q1
    · rename_i c
      refine ⟨c, r1.toBl, ?_⟩
      cases c with
      | true => exact k _ M1 _ H1 (by simpa using q1) e1 (.bl _) h1
      | false => exact ⟨τ, M1, Qd, Ed, hs.mono e1, h1, (by simpa using q1), we, k.mono e1⟩
    · exact q1.elim⟩⟩
theorem pd_not (h : PD X W a te) : PD X W (.UnaryOp .Not a pos) (dNotV te) :=
  ⟨PEimp (pe_not h.run) fun σ H Q ⟨τ, M, Qd, Ed, hs, hr, q, we, k⟩ => ⟨τ, M, _, Ed, hs, hr, q, we, fun d M1 v H1 q1 e1 r1 h1 => by
    dsimp only at q1
    split at q1
    · exact ⟨_, r1.toBl, k _ M1 _ H1 q1 e1 (.bl _) h1⟩
    · exact q1.elim⟩⟩
def dNeg (t : DE) : DE := fun τ M Q E => t τ M (fun d M1 => match d with | .int i => Q (.int (-i)) M1 | _ => False) E
theorem pd_neg (h : PD X W a te) : PD X W (.UnaryOp .USub a pos) (dNeg te) :=
  ⟨PEimp (pe_un un_neg h.run) fun σ H Q ⟨τ, M, Qd, Ed, hs, hr, q, we, k⟩ => ⟨τ, M, _, Ed, hs, hr, q, we, fun d M1 v H1 q1 e1 r1 h1 => by
    dsimp only at q1
    split at q1
    · exact ⟨_, r1.toInt, k _ M1 _ H1 q1 e1 (.int _) h1⟩
    · exact q1.elim⟩⟩
end
end
end DL

set_option maxHeartbeats 4000000
namespace DL
open PySem L2
section
variable {X : Cx} {W : DW} {e a b o : Expr} {es : List Expr} {te ta tb : DE} {t : DA} {pos p apos : Pos}

/-! ### argument lists, displays -/
def dNil : DA := fun _ M Q _ => Q [] M
def dCons (te : DE) (t : DA) : DA := fun τ M Q E => te τ M (fun d M1 => t τ M1 (fun ds M2 => Q (d :: ds) M2) E) E
theorem pad_nil : PAD X W [] dNil := ⟨PAimp pa_nil fun σ H Q ⟨τ, M, Qd, Ed, hs, hr, q, we, k⟩ => k [] M [] H q .refl .nil hr⟩
theorem pad_cons (he : PD X W e te) (h : PAD X W es t) (hs : starEach (e :: es) X.env = (false, eval e X.env) :: starEach es X.env := by rfl) : PAD X W (e :: es) (dCons te t) :=
  ⟨PAimp (pa_cons he.run h.run hs) fun σ H Q ⟨τ, M, Qd, Ed, hs, hr, q, we, k⟩ => ⟨τ, M, _, Ed, hs, hr, q, we, fun d M1 v H1 q1 e1 r1 h1 =>
    ⟨τ, M1, _, Ed, hs.mono e1, h1, q1, we, fun ds M2 vs H2 q2 e2 r2 h2 => k (d :: ds) M2 (v :: vs) H2 q2 (e1.trans e2) (.cons (r1.mono e2) r2) h2⟩⟩⟩
def dTup (t : DA) : DE := fun τ M Q E => t τ M (fun ds M1 => ds.length ≤ sizeLine ∧ Q (.tup ds) M1) E
def dLst (t : DA) : DE := fun τ M Q E => t τ M (fun ds M1 => ds.length ≤ sizeLine ∧ ∀ p, M1 p = none → Q (.ref p) (put M1 p (.lst ds))) E
theorem pd_tup {x1} (h : PAD X W es t) : PD X W (.Tuple es x1 pos) (dTup t) :=
  ⟨PEimp (pe_tup h.run) fun σ H Q ⟨τ, M, Qd, Ed, hs, hr, q, we, k⟩ => ⟨τ, M, _, Ed, hs, hr, q, we, fun ds M1 vs H1 q1 e1 r1 h1 =>
    ⟨by rw [r1.length]; exact q1.1, fun p hp => (k.mono e1).tup h1 r1 hp q1.2⟩⟩⟩
theorem pd_lst (h : PAD X W es t) : PD X W (.List es pos) (dLst t) :=
  ⟨PEimp (pe_lst h.run) fun σ H Q ⟨τ, M, Qd, Ed, hs, hr, q, we, k⟩ => ⟨τ, M, _, Ed, hs, hr, q, we, fun ds M1 vs H1 q1 e1 r1 h1 =>
    ⟨by rw [r1.length]; exact q1.1, fun p hp => (k.mono e1).lst h1 r1 hp q1.2⟩⟩⟩

/-! ### calls of what is built in -/
abbrev DG := List D → Mp → DK → Prop
def liftC (K : PySem.W.Frag) (g : DG) : List V → Hp → VK → Prop := fun xs H Q => ∃ ds M Qd, g ds M Qd ∧ RpL K H xs ds ∧ HR K H M ∧ KC K H Qd Q
def dCB (g : DG) (t : DA) : DE := fun τ M Q E => t τ M (fun ds M1 => g ds M1 Q) E
theorem dCB_lift {g : DG} {σ : St} {H : Hp} {Q : VK} (h : liftE X.K W (dCB g t) σ H Q) : tCB (liftC X.K g) (liftA X.K W t) σ H Q := by
  obtain ⟨τ, M, Qd, Ed, hs, hr, q, we, k⟩ := h
  exact ⟨τ, M, _, Ed, hs, hr, q, we, fun ds M1 vs H1 q1 e1 r1 h1 => ⟨ds, M1, Qd, q1, r1, h1, k.mono e1⟩⟩
theorem CallRimp {f : Value} {r r' : List V → Hp → VK → Prop} (h : CallR X f r) (i : ∀ xs H Q, r' xs H Q → r xs H Q) : CallR X f r' := fun pins s σ H xs us Q I rs q => h pins s σ H xs us Q I rs (i xs H Q q)
theorem pd_callB {id : String} {x : Str} {g : DG} (hc : CallR X (.builtin id) (liftC X.K g)) (hg : Gl X x) (hm : X.mg x = none) (hv : bootBuiltins x = some (.builtin id)) (ha : PAD X W (e :: es) t) (hn : x ≠ "__name__" := by decide) (hdb : (x == ("__debug__" : Str)) = false := by decide)
    (he : starEach (e :: es) X.env = (false, eval e X.env) :: starEach es X.env := by rfl) (hpl : (backTo pos (starEach es X.env)).any (·.1) = false := by rfl) :
    PD X W (.Call (.Name x p) (e :: es) [] pos) (dCB g t) := ⟨PEimp (pe_callB hc hg hm hv ha.run hn hdb he hpl) fun _ _ _ h => dCB_lift h⟩
theorem pd_callT {T : String} {x : Str} {g : DG} (hc : CallR X (.type T) (liftC X.K g)) (hg : Gl X x) (hm : X.mg x = none) (hv : bootBuiltins x = some (.type T)) (ha : PAD X W (e :: es) t) (hn : x ≠ "__name__" := by decide) (hdb : (x == ("__debug__" : Str)) = false := by decide)
    (he : starEach (e :: es) X.env = (false, eval e X.env) :: starEach es X.env := by rfl) (hpl : (backTo pos (starEach es X.env)).any (·.1) = false := by rfl) :
    PD X W (.Call (.Name x p) (e :: es) [] pos) (dCB g t) := ⟨PEimp (pe_callTy hc hg hm hv ha.run hn hdb he hpl) fun _ _ _ h => dCB_lift h⟩
theorem RpL.one {K : PySem.W.Frag} {H : Hp} {vs : List V} {d : D} (h : RpL K H vs [d]) : ∃ v, vs = [v] ∧ Rp K H v d := by
  cases h with
  | cons r l => cases l; exact ⟨_, rfl, r⟩
theorem RpL.two {K : PySem.W.Frag} {H : Hp} {vs : List V} {d d' : D} (h : RpL K H vs [d, d']) : ∃ v v', vs = [v, v'] ∧ Rp K H v d ∧ Rp K H v' d' := by
  cases h with
  | cons r l => obtain ⟨v, rfl, q⟩ := l.one; exact ⟨_, _, rfl, r, q⟩
/-- len -/
def lenD (d : D) (M : Mp) : Option Nat := match d with
  | .tup xs => some xs.length
  | .str x => if x.length ≤ sizeLine then some x.length else none
  | .ref a => match M a with
    | some (.lst xs) => some xs.length
    | some (.rol xs) => some xs.length
    | _ => none
  | _ => none
def lenG : DG := fun ds M Q => match ds with
  | [d] => match lenD d M with
    | some n => Q (.int n) M
    | none => False
  | _ => False
theorem HR.rol {K : PySem.W.Frag} {H : Hp} {M : Mp} {a : Addr} {ds : List D} (h : HR K H M) (e : M a = some (.rol ds)) : ∃ o xs, H a = some (.frz o (.lst xs)) ∧ RpL K H xs ds := h a _ e
/-- the items of a list that is read -/
def seqOf (M : Mp) (a : Addr) : Option (List D) := match M a with
  | some (.lst xs) => some xs
  | some (.rol xs) => some xs
  | _ => none
theorem seqOf_ok {K : PySem.W.Frag} {H : Hp} {M : Mp} {a : Addr} {ds : List D} (hr : HR K H M) (h : seqOf M a = some ds) : ∃ xs, SqL K H a xs ∧ RpL K H xs ds := by
  unfold seqOf at h
  cases e : M a with
  | none => rw [e] at h; cases h
  | some o =>
    rw [e] at h
    cases o with
    | lst xs => cases h; obtain ⟨vs, q, l⟩ := hr.lst e; exact ⟨vs, .of q, l⟩
    | rol xs => cases h; obtain ⟨o, vs, q, l⟩ := hr.rol e; exact ⟨vs, .inl (.inr ⟨o, q⟩), l⟩
    | dk xs => cases h
    | ins C xs => cases h
    | xd xs => cases h
    | rdk xs => cases h
theorem lenD_ok {K : PySem.W.Frag} {H : Hp} {M : Mp} {v : V} {d : D} {n : Nat} (r : Rp K H v d) (hr : HR K H M) (h : lenD d M = some n) : LenV K v H n := by
  cases d with
  | tup xs =>
    obtain ⟨a, vs, rfl, s, l⟩ := r.toTup
    cases h
    exact .inr ⟨vs, s, l.length.symm⟩
  | str x =>
    cases r
    have h' : (if x.length ≤ sizeLine then some x.length else none) = some n := h
    by_cases c : x.length ≤ sizeLine
    · rw [if_pos c] at h'; cases h'; exact ⟨c, rfl⟩
    · rw [if_neg c] at h'; cases h'
  | ref a =>
    cases r
    have h' : (match M a with | some (.lst xs) => some xs.length | some (.rol xs) => some xs.length | _ => none) = some n := h
    have : ∃ ds, seqOf M a = some ds ∧ ds.length = n := by
      unfold seqOf
      cases e : M a with
      | none => rw [e] at h'; cases h'
      | some o => rw [e] at h'; cases o <;> first | (cases h'; exact ⟨_, rfl, rfl⟩) | cases h'
    obtain ⟨ds, e, rfl⟩ := this
    obtain ⟨xs, s, l⟩ := seqOf_ok hr e
    exact .inl ⟨xs, s, l.length.symm⟩
  | _ => cases h
theorem call_lenG : CallR X (.builtin "len") (liftC X.K lenG) := CallRimp call_len fun xs H Q ⟨ds, M, Qd, q, r, hr, k⟩ => by
  unfold lenG at q
  split at q
  · rename_i d
    obtain ⟨v, rfl, rv⟩ := r.one
    split at q
    · rename_i n e
      exact ⟨v, n, rfl, lenD_ok rv hr e, k _ M _ H q .refl (.int _) hr⟩
    · exact q.elim
  · exact q.elim
/-- int(n), int(flag) -/
def intG : DG := fun ds M Q => match ds with
  | [.int i] => Q (.int i) M
  | [.bl b] => Q (.int (if b then 1 else 0)) M
  | _ => False
theorem call_intG : CallR X (.type "int") (liftC X.K intG) := CallRimp call_int1 fun xs H Q ⟨ds, M, Qd, q, r, hr, k⟩ => by
  unfold intG at q
  split at q
  · obtain ⟨v, rfl, rv⟩ := r.one
    rw [rv.toInt]
    exact .inl ⟨_, rfl, k _ M _ H q .refl (.int _) hr⟩
  · obtain ⟨v, rfl, rv⟩ := r.one
    rw [rv.toBl]
    exact .inr ⟨_, rfl, k _ M _ H q .refl (.int _) hr⟩
  · exact q.elim
/-- tuple(..), list(..) -/
def tupG : DG := fun ds M Q => match ds with
  | [.tup xs] => Q (.tup xs) M
  | [.ref a] => match seqOf M a with
    | some xs => Q (.tup xs) M
    | none => False
  | _ => False
theorem call_tupG : CallR X (.type "tuple") (liftC X.K tupG) := CallRimp call_tuple_of fun xs H Q ⟨ds, M, Qd, q, r, hr, k⟩ => by
  unfold tupG at q
  split at q
  · obtain ⟨v, rfl, rv⟩ := r.one
    obtain ⟨a, vs, rfl, s, l⟩ := rv.toTup
    exact ⟨a, vs, rfl, .inr ⟨s, k _ M _ H q .refl (.tup s l) hr⟩⟩
  · obtain ⟨v, rfl, rv⟩ := r.one
    rw [rv.toRef]
    split at q
    · rename_i xs e
      obtain ⟨vs, s, l⟩ := seqOf_ok hr e
      exact ⟨_, vs, rfl, .inl ⟨s, fun p hp => k.tup hr l hp q⟩⟩
    · exact q.elim
  · exact q.elim
def lstG : DG := fun ds M Q => match ds with
  | [.tup xs] => ∀ p, M p = none → Q (.ref p) (put M p (.lst xs))
  | [.ref a] => match seqOf M a with
    | some xs => ∀ p, M p = none → Q (.ref p) (put M p (.lst xs))
    | none => False
  | _ => False
theorem call_lstG : CallR X (.type "list") (liftC X.K lstG) := CallRimp call_list_of fun xs H Q ⟨ds, M, Qd, q, r, hr, k⟩ => by
  unfold lstG at q
  split at q
  · obtain ⟨v, rfl, rv⟩ := r.one
    obtain ⟨a, vs, rfl, s, l⟩ := rv.toTup
    exact ⟨a, vs, rfl, .inr s, fun p hp => k.lst hr l hp q⟩
  · obtain ⟨v, rfl, rv⟩ := r.one
    rw [rv.toRef]
    split at q
    · rename_i xs e
      obtain ⟨vs, s, l⟩ := seqOf_ok hr e
      exact ⟨_, vs, rfl, .inl s, fun p hp => k.lst hr l hp q⟩
    · exact q.elim
  · exact q.elim
/-- all, any of a list of bools -/
def blsOf : List D → Option (List Bool)
  | [] => some []
  | .bl b :: ds => (blsOf ds).map (b :: ·)
  | _ :: _ => none
theorem blsOf_map : ∀ bs : List Bool, blsOf (bs.map D.bl) = some bs
  | [] => rfl
  | b :: bs => by simp [blsOf, blsOf_map bs]
theorem blsOf_ok : ∀ {ds : List D} {bs : List Bool}, blsOf ds = some bs → ds = bs.map D.bl
  | [], bs, h => by cases h; rfl
  | d :: ds, bs, h => by
    cases d with
    | bl b =>
      have h' : (blsOf ds).map (b :: ·) = some bs := h
      cases e : blsOf ds with
      | none => rw [e] at h'; cases h'
      | some cs => rw [e] at h'; cases h'; rw [blsOf_ok e]; rfl
    | _ => cases h
def allG (f : List Bool → Bool) : DG := fun ds M Q => match ds with
  | [.ref a] => match (seqOf M a).bind blsOf with
    | some bs => Q (.bl (f bs)) M
    | none => False
  | _ => False
theorem allG_of {id : String} {f : List Bool → Bool} (h : CallR X (.builtin id) fun vs H Q => ∃ (a : Addr) (bs : List Bool), vs = [V.ref a] ∧ SqL X.K H a (bs.map V.bl) ∧ Q (.bl (f bs)) H) : CallR X (.builtin id) (liftC X.K (allG f)) := CallRimp h fun xs H Q ⟨ds, M, Qd, q, r, hr, k⟩ => by
  unfold allG at q
  split at q
  · obtain ⟨v, rfl, rv⟩ := r.one
    rw [rv.toRef]
    split at q
    · rename_i bs e
      obtain ⟨ds, e1, e2⟩ := Option.bind_eq_some_iff.mp e
      obtain ⟨vs, s, l⟩ := seqOf_ok hr e1
      have e3 := blsOf_ok e2
      subst e3
      exact ⟨_, bs, rfl, by rw [← l.bls]; exact s, k _ M _ H q .refl (.bl _) hr⟩
    · exact q.elim
  · exact q.elim
theorem call_allG (hc : X.calm = true) : CallR X (.builtin "all") (liftC X.K (allG fun bs => bs.all id)) := allG_of (cr_all hc)
theorem call_anyG (hc : X.calm = true) : CallR X (.builtin "any") (liftC X.K (allG fun bs => bs.any id)) := allG_of (cr_any hc)
/-- max, min of two ints -/
def mmG (f : Int → Int → Int) : DG := fun ds M Q => match ds with
  | [.int i, .int j] => Q (.int (f i j)) M
  | _ => False
theorem call_maxG (hc : X.calm = true) : CallR X (.builtin "max") (liftC X.K (mmG fun i j => if j > i then j else i)) := CallRimp (call_max2 hc) fun xs H Q ⟨ds, M, Qd, q, r, hr, k⟩ => by
  unfold mmG at q
  split at q
  · obtain ⟨v, v', rfl, rv, rv'⟩ := r.two
    rw [rv.toInt, rv'.toInt]
    exact ⟨_, _, rfl, k _ M _ H q .refl (.int _) hr⟩
  · exact q.elim
theorem call_minG (hc : X.calm = true) : CallR X (.builtin "min") (liftC X.K (mmG fun i j => if j < i then j else i)) := CallRimp (call_min2 hc) fun xs H Q ⟨ds, M, Qd, q, r, hr, k⟩ => by
  unfold mmG at q
  split at q
  · obtain ⟨v, v', rfl, rv, rv'⟩ := r.two
    rw [rv.toInt, rv'.toInt]
    exact ⟨_, _, rfl, k _ M _ H q .refl (.int _) hr⟩
  · exact q.elim

/-! ### isinstance -/
/-- what the written part says of a class whose instances are asked -/
structure InsK (K : PySem.W.Frag) (C : Addr) : Prop where
  cl : Cls K C
  ha : PySem.W.findIn K (.ref C) "__class__" = some (some (.builtin "object.__class__"))
  hn : PySem.W.specialIn K (.builtin "object.__class__") "__get__" = some (some (.builtin "getset_descriptor.__get__"))
  htk : PySem.W.takesIn K (.builtin "object.__class__") = some true
  hm : PySem.W.mroIn K C (.type "object") = some true
def tyName (d : D) (M : Mp) : Option String := match d with
  | .non => some "NoneType"
  | .bl _ => some "bool"
  | .int _ => some "int"
  | .str _ => some "str"
  | .tup _ => some "tuple"
  | .ref a => match M a with
    | some (.lst _) => some "list"
    | some (.rol _) => some "list"
    | some (.dk _) => some "dict"
    | _ => none
  | .ty _ => none
def clsOf (d : D) (M : Mp) : Option Addr := match d with
  | .ref a => match M a with
    | some (.ins C _) => some C
    | _ => none
  | _ => none
theorem tyName_ok {K : PySem.W.Frag} {H : Hp} {M : Mp} {v : V} {d : D} {n : String} (r : Rp K H v d) (hr : HR K H M) (h : tyName d M = some n) : TyX K H v (.type n) := by
  cases d with
  | non => cases r; cases h; exact .base .non
  | bl b => cases r; cases h; exact .base (.bl b)
  | int b => cases r; cases h; exact .base (.int b)
  | str b => cases r; cases h; exact .base (.str b)
  | tup xs =>
    obtain ⟨a, vs, rfl, s, l⟩ := r.toTup
    cases h
    rcases s with (s | ⟨o, s⟩) | ⟨o, its, m, s, c, _⟩
    · exact .base (.tup s)
    · exact .fTuple s
    · exact .kTuple s c
  | ref a =>
    cases r
    have h' : (match M a with | some (.lst _) => some "list" | some (.rol _) => some "list" | some (.dk _) => some "dict" | _ => none) = some n := h
    cases e : M a with
    | none => rw [e] at h'; cases h'
    | some o =>
      rw [e] at h'
      cases o with
      | lst xs => cases h'; obtain ⟨vs, q, _⟩ := hr.lst e; exact .base (.lst q)
      | rol xs => cases h'; obtain ⟨o, vs, q, _⟩ := hr.rol e; exact .base (.frz q)
      | dk xs => cases h'; obtain ⟨vs, q, _⟩ := hr.dk e; exact .base (.dK q)
      | ins C xs => cases h'
      | xd xs => cases h'
      | rdk xs => cases h'
  | ty n => cases h
theorem clsOf_ok {K : PySem.W.Frag} {H : Hp} {M : Mp} {v : V} {d : D} {C : Addr} (r : Rp K H v d) (hr : HR K H M) (h : clsOf d M = some C) (i : InsK K C) : TyX K H v (.ref C) := by
  cases d with
  | ref a =>
    cases r
    have h' : (match M a with | some (.ins C _) => some C | _ => none) = some C := h
    cases e : M a with
    | none => rw [e] at h'; cases h'
    | some o =>
      rw [e] at h'
      cases o with
      | ins C' xs => cases h'; obtain ⟨dx, vs, q, _⟩ := hr.ins e; exact .base (.ins q i.cl i.ha i.hn i.htk i.hm)
      | _ => cases h'
  | _ => cases h
def isB (a b : String) : Bool := decide (a = b) || (decide (a = "bool") && decide (b = "int"))
theorem kit_isB {a b : String} (ha : a ∈ ["NoneType", "bool", "int", "str", "tuple", "list", "dict"]) (hb : b ∈ ["bool", "int", "str", "tuple", "list", "dict"]) : kitB a b = some (isB a b) := by
  simp only [List.mem_cons, List.not_mem_nil, or_false] at ha hb
  rcases ha with rfl | rfl | rfl | rfl | rfl | rfl | rfl <;> rcases hb with rfl | rfl | rfl | rfl | rfl | rfl <;> decide +kernel
theorem tyName_mem {d : D} {M : Mp} {n : String} (h : tyName d M = some n) : n ∈ ["NoneType", "bool", "int", "str", "tuple", "list", "dict"] := by
  cases d with
  | ref a =>
    have h' : (match M a with | some (.lst _) => some "list" | some (.rol _) => some "list" | some (.dk _) => some "dict" | _ => none) = some n := h
    cases e : M a with
    | none => rw [e] at h'; cases h'
    | some o => rw [e] at h'; cases o <;> first | (cases h'; simp) | cases h'
  | ty n => cases h
  | _ => cases h; simp
def isiG (K : PySem.W.Frag) : DG := fun ds M Q => match ds with
  | [x, .ty b] => b ∈ ["bool", "int", "str", "tuple", "list", "dict"] ∧ match tyName x M with
    | some a => Q (.bl (isB a b)) M
    | none => ∃ C, clsOf x M = some C ∧ InsK K C ∧ PySem.W.kitOne K (.ref C) (.type b) = some false ∧ Q (.bl false) M
  | [x, .ref C'] => match tyName x M with
    | some a => PySem.W.kitOne K (.type a) (.ref C') = some false ∧ Q (.bl false) M
    | none => ∃ C r, clsOf x M = some C ∧ InsK K C ∧ PySem.W.kitOne K (.ref C) (.ref C') = some r ∧ Q (.bl r) M
  | _ => False
theorem call_isiG : CallR X (.builtin "isinstance") (liftC X.K (isiG X.K)) := CallRimp call_isi fun xs H Q ⟨ds, M, Qd, q, r, hr, k⟩ => by
  unfold isiG at q
  split at q
  · rename_i x b
    obtain ⟨v, v', rfl, rv, rv'⟩ := r.two
    rw [rv'.toTy]
    obtain ⟨hb, q⟩ := q
    split at q
    · rename_i a ea
      exact ⟨v, _, _, _, _, rfl, .ty b, tyName_ok rv hr ea, kit_ty (kit_isB (tyName_mem ea) hb), k _ M _ H q .refl (.bl _) hr⟩
    · obtain ⟨C, ec, i, kk, q⟩ := q
      exact ⟨v, _, _, _, _, rfl, .ty b, clsOf_ok rv hr ec i, kk, k _ M _ H q .refl (.bl _) hr⟩
  · rename_i x C'
    obtain ⟨v, v', rfl, rv, rv'⟩ := r.two
    rw [rv'.toRef]
    split at q
    · rename_i a ea
      exact ⟨v, _, _, _, _, rfl, .own C', tyName_ok rv hr ea, q.1, k _ M _ H q.2 .refl (.bl _) hr⟩
    · obtain ⟨C, r, ec, i, kk, q⟩ := q
      exact ⟨v, _, _, _, _, rfl, .own C', clsOf_ok rv hr ec i, kk, k _ M _ H q .refl (.bl _) hr⟩
  · exact q.elim

/-! ### subscripts, slices, attributes -/
def ixG : DO := fun x y M Q => match x, y with
  | .tup xs, .int i => match atI xs i with
    | some d => Q d M
    | none => False
  | .ref a, .int i => match (seqOf M a).bind (atI · i) with
    | some d => Q d M
    | none => False
  | .str z, .int i => z.length ≤ sizeLine ∧ match atI z.cps.toList i with
    | some c => Q (.str ⟨#[c]⟩) M
    | none => False
  | _, _ => False
theorem RpL.atI {K : PySem.W.Frag} {H : Hp} {xs : List V} {ds : List D} {i : Int} {d : D} (l : RpL K H xs ds) (h : L2.atI ds i = some d) : ∃ v, L2.atI xs i = some v ∧ Rp K H v d := by
  unfold L2.atI at h ⊢
  rw [l.length]
  obtain ⟨j, e1, e2⟩ := Option.bind_eq_some_iff.mp h
  obtain ⟨v, e3, r⟩ := l.get e2
  exact ⟨v, by rw [e1]; exact e3, r⟩
theorem IxRimp {r r' : R2} (h : IxR X r) (i : ∀ x y H Q, r' x y H Q → r x y H Q) : IxR X r' := fun value slice pins s σ H x y v u Q I rx ry q hs => h value slice pins s σ H x y v u Q I rx ry (i x y H Q q) hs
theorem ix_G : IxR X (liftO X.K ixG) := IxRimp ix_seq fun x y H Q ⟨dx, dy, M, Qd, q, a, b, c, k⟩ => by
  unfold ixG at q
  split at q
  · obtain ⟨p, vs, rfl, s, l⟩ := a.toTup
    split at q
    · rename_i d e
      obtain ⟨v, ev, rv⟩ := l.atI e
      exact .inr (.inl ⟨p, vs, _, v, rfl, b.toInt, s, ev, k _ M _ H q .refl rv c⟩)
    · exact q.elim
  · split at q
    · rename_i d e
      obtain ⟨xs, e1, e2⟩ := Option.bind_eq_some_iff.mp e
      obtain ⟨vs, s, l⟩ := seqOf_ok c e1
      obtain ⟨v, ev, rv⟩ := l.atI e2
      exact .inl ⟨_, vs, _, v, a.toRef, b.toInt, s, ev, k _ M _ H q .refl rv c⟩
    · exact q.elim
  · obtain ⟨hz, q⟩ := q
    split at q
    · rename_i d e
      exact .inr (.inr ⟨_, _, _, a.toStr, b.toInt, hz, e, k _ M _ H q .refl (.str _) c⟩)
    · exact q.elim
  · exact q.elim
theorem pd_ix {g : DO} (hg : IxR X (liftO X.K g)) (ha : PD X W a ta) (hb : PD X W b tb) (hs : PlainIx b) : PD X W (.Subscript a b pos) (dOp g ta tb) :=
  ⟨PEimp (pe_ix hg ha.run hb.run hs) fun _ _ _ h => dOp_lift h⟩
/-- a slice's part -/
abbrev DP := Sl → Mp → (Option Int → Mp → Prop) → EK → Prop
def liftP (K : PySem.W.Frag) (W : DW) (t : DP) : TO := fun σ H Q => ∃ τ M Qd Ed, RS K W.h0 H σ τ ∧ HR K H M ∧ t τ M Qd Ed ∧ (∀ x M', Ed x M' → W.w x τ M') ∧ (∀ b M' H', Qd b M' → TExt K H H' → HR K H' M' → Q b H')
structure POD (X : Cx) (W : DW) (e : Option Expr) (t : DP) : Prop where
  run : PO X e (liftP X.K W t)
def dNoP : DP := fun _ M Q _ => Q none M
def dPart (t : DE) : DP := fun τ M Q E => t τ M (fun d M1 => match d with | .int i => Q (some i) M1 | _ => False) E
theorem POimp {e : Option Expr} {t t' : TO} (h : PO X e t) (i : ∀ σ H Q, t' σ H Q → t σ H Q) : PO X e t' := ⟨fun pins s σ H Q I q => h.run pins s σ H Q I (i σ H Q q)⟩
theorem pod_none : POD X W none dNoP := ⟨POimp po_none fun σ H Q ⟨τ, M, Qd, Ed, hs, hr, q, we, k⟩ => k none M H q .refl hr⟩
theorem pod_some (h : PD X W e te) : POD X W (some e) (dPart te) := ⟨POimp (po_some h.run) fun σ H Q ⟨τ, M, Qd, Ed, hs, hr, q, we, k⟩ => ⟨τ, M, _, Ed, hs, hr, q, we, fun d M1 v H1 q1 e1 r1 h1 => by
  dsimp only at q1
  split at q1
  · exact ⟨_, r1.toInt, k _ M1 H1 q1 e1 h1⟩
  · exact q1.elim⟩⟩
def cutD (xs : List D) (lo hi : Option Int) : List D := (xs.drop (HT.sIx xs.length 0 lo)).take (HT.sIx xs.length xs.length hi - HT.sIx xs.length 0 lo)
theorem RpL.cut {K : PySem.W.Frag} {H : Hp} {xs : List V} {ds : List D} {lo hi : Option Int} (l : RpL K H xs ds) : RpL K H (cutV xs lo hi) (cutD ds lo hi) := by
  unfold cutV cutD
  rw [l.length]
  exact (l.drop _).take _
def slG (x : D) (lo hi : Option Int) (M : Mp) (Q : DK) : Prop := match x with
  | .tup xs => Q (.tup (cutD xs lo hi)) M
  | .ref a => match seqOf M a with
    | some xs => ∀ p, M p = none → Q (.ref p) (put M p (.lst (cutD xs lo hi)))
    | none => False
  | .str z => z.length ≤ sizeLine ∧ Q (.str (cutS z lo hi)) M
  | _ => False
theorem sIx_whole {n : Nat} {lo hi : Option Int} {xs : List D} (hn : xs.length = n) (h : HT.sIx n 0 lo = 0 ∧ HT.sIx n n hi = n) : cutD xs lo hi = xs := by
  unfold cutD
  rw [hn, h.1, h.2, ← hn]
  simp
def dSl (te : DE) (tl th : DP) : DE := fun τ M Q E => te τ M (fun x M1 => tl τ M1 (fun lo M2 => th τ M2 (fun hi M3 => slG x lo hi M3 Q) E) E) E
def liftSl (K : PySem.W.Frag) : V → Option Int → Option Int → Hp → VK → Prop := fun x lo hi H Q => ∃ d M Qd, slG d lo hi M Qd ∧ Rp K H x d ∧ HR K H M ∧ KC K H Qd Q
theorem sl_G : SlR X (liftSl X.K) := by
  have h := (sl_tupA (X := X)).or ((sl_list (X := X)).or (sl_str (X := X)))
  intro pins s σ H x v vl vu lo hi sl Q I rx hs pl pu ⟨d, M, Qd, q, r, hr, k⟩
  refine h pins s σ H x v vl vu lo hi sl Q I rx hs pl pu ?_
  unfold slG at q
  split at q
  · obtain ⟨p, vs, rfl, s, l⟩ := r.toTup
    refine .inl ⟨p, vs, rfl, s, fun hw => ?_, fun _ p hp => k.tup hr l.cut hp q⟩
    rw [sIx_whole l.length.symm hw] at q
    exact k _ M _ H q .refl (.tup s l) hr
  · split at q
    · rename_i xs e
      obtain ⟨vs, s, l⟩ := seqOf_ok hr e
      exact .inr (.inl ⟨_, vs, r.toRef, s, fun p hp => k.lst hr l.cut hp q⟩)
    · exact q.elim
  · exact .inr (.inr ⟨_, r.toStr, q.1, k _ M _ H q.2 .refl (.str _) hr⟩)
  · exact q.elim
theorem pd_slice {lo hi : Option Expr} {tl th : DP} {p2 : Pos} (he : PD X W e te) (hl : POD X W lo tl) (hh : POD X W hi th) : PD X W (.Subscript e (.Slice lo hi none p2) pos) (dSl te tl th) :=
  ⟨PEimp (pe_slice sl_G he.run hl.run hh.run) fun σ H Q ⟨τ, M, Qd, Ed, hs, hr, q, we, k⟩ => ⟨τ, M, _, Ed, hs, hr, q, we, fun x M1 v H1 q1 e1 r1 h1 =>
    ⟨τ, M1, _, Ed, hs.mono e1, h1, q1, we, fun lo M2 H2 q2 e2 h2 => ⟨τ, M2, _, Ed, hs.mono (e1.trans e2), h2, q2, we, fun hi M3 H3 q3 e3 h3 =>
      ⟨x, M3, Qd, q3, r1.mono (e2.trans e3), h3, k.mono (e1.trans (e2.trans e3))⟩⟩⟩⟩⟩
/-- an attribute of an instance -/
def FldK (K : PySem.W.Frag) (C : Addr) (f : Str) : Prop := Cls K C ∧ NoAttr K C f
def dFld (K : PySem.W.Frag) (te : DE) (f : Str) : DE := fun τ M Q E => te τ M (fun d M1 => match d with
  | .ref a => match M1 a with
    | some (.ins C fs) => FldK K C f ∧ match fs.lookup f with
      | some v => Q v M1
      | none => False
    | _ => False
  | _ => False) E
theorem FD.look {K : PySem.W.Frag} {H : Hp} {f : Str} : ∀ {vs : List (Str × V)} {fs : List (Str × D)}, FD K H vs fs → ∀ {d : D}, fs.lookup f = some d → ∃ v, vs.lookup f = some v ∧ Rp K H v d
  | [], [], _, d, h => by cases h
  | p :: ps, q :: qs, ⟨e, r, l⟩, d, h => by
    obtain ⟨p1, p2⟩ := p
    obtain ⟨q1, q2⟩ := q
    simp only at e r
    subst e
    by_cases c : (f == p1) = true
    · rw [List.lookup_cons, c] at h ⊢
      cases h
      exact ⟨p2, rfl, r⟩
    · have c' : (f == p1) = false := by simpa using c
      rw [List.lookup_cons, c'] at h ⊢
      exact FD.look l h
  | [], _ :: _, h, _, _ => h.elim
  | _ :: _, [], h, _, _ => h.elim
theorem pd_fld {f : Str} (he : PD X W e te) (hb : attributeBase e f X.env (eval e X.env) = eval e X.env := by rfl) : PD X W (.Attribute e f pos) (dFld X.K te f) :=
  ⟨PEimp (pe_fld he.run hb) fun σ H Q ⟨τ, M, Qd, Ed, hs, hr, q, we, k⟩ => ⟨τ, M, _, Ed, hs, hr, q, we, fun d M1 v H1 q1 e1 r1 h1 => by
    dsimp only at q1
    split at q1
    · rename_i a
      split at q1
      · rename_i C fs ea
        obtain ⟨⟨c, n⟩, q1⟩ := q1
        split at q1
        · rename_i y ey
          obtain ⟨dx, vs, hv, fd⟩ := h1.ins ea
          obtain ⟨w, ew, rw'⟩ := fd.look ey
          exact ⟨a, C, dx, vs, w, r1.toRef, hv, c, n, ew, k _ M1 _ H1 q1 e1 rw' h1⟩
        · exact q1.elim
      · exact q1.elim
    · exact q1.elim⟩⟩
end
end DL

set_option maxHeartbeats 4000000
namespace DL
open PySem L2

/-! ### statements -/
section
variable {X : Cx} {W : DW} {e : Expr} {st : Stmt} {rest : List Stmt} {t u : DS} {te : DE} {pos : Pos}
def dNext : DS := fun Dn τ M => Dn.nx τ M
def dSeq (t u : DS) : DS := fun Dn τ M => t { Dn with nx := u Dn } τ M
theorem pssd_nil : PSsD X W [] dNext := ⟨PSsimp pss_nil fun De σ H ⟨τ, M, Dd, hs, hr, q, we, nc⟩ => nc.nx τ M σ H q .refl hs hr⟩
theorem pssd_cons (h1 : PSD X W st t) (h2 : PSsD X W rest u) : PSsD X W (st :: rest) (dSeq t u) :=
  ⟨PSsimp (pss_cons h1.run h2.run) fun De σ H ⟨τ, M, Dd, hs, hr, q, we, nc⟩ => ⟨τ, M, _, hs, hr, q, we,
    ⟨fun τ' M' σ' H' q' e' hs' hr' => ⟨τ', M', Dd, hs', hr', q', we, nc.mono e'⟩, nc.rt, nc.bk, nc.ct⟩⟩⟩
theorem pssd_one (h1 : PSD X W st t) : PSsD X W [st] t := ⟨PSsimp (pss_one h1.run) fun De σ H h => h⟩
def dBreak : DS := fun Dn τ M => Dn.bk τ M
def dCont : DS := fun Dn τ M => Dn.ct τ M
theorem psd_pass : PSD X W (.Pass pos) dNext := ⟨PSimp ps_pass fun De σ H ⟨τ, M, Dd, hs, hr, q, we, nc⟩ => nc.nx τ M σ H q .refl hs hr⟩
theorem psd_break : PSD X W (.Break pos) dBreak := ⟨PSimp ps_break fun De σ H ⟨τ, M, Dd, hs, hr, q, we, nc⟩ => nc.bk τ M σ H q .refl hs hr⟩
theorem psd_cont : PSD X W (.Continue pos) dCont := ⟨PSimp ps_continue fun De σ H ⟨τ, M, Dd, hs, hr, q, we, nc⟩ => nc.ct τ M σ H q .refl hs hr⟩
/-- what an expression lets out -/
abbrev exOf (Dn : DN) (τ : Sl) : EK := fun x M => Dn.ex x τ M
def dDrop (te : DE) : DS := fun Dn τ M => te τ M (fun _ M1 => Dn.nx τ M1) (exOf Dn τ)
theorem psd_expr (he : PD X W e te) (hs : swapsWith e none pos.line X.env = pure false := by rfl) : PSD X W (.Expr e pos) (dDrop te) :=
  ⟨PSimp (ps_expr he.run hs) fun De σ H ⟨τ, M, Dd, hs, hr, q, we, nc⟩ => ⟨τ, M, _, _, hs, hr, q, fun x M' h => we x τ M' h, fun d M1 v H1 q1 e1 r1 h1 => nc.nx τ M1 σ H1 q1 e1 (hs.mono e1) h1⟩⟩
def dRet (te : DE) : DS := fun Dn τ M => te τ M Dn.rt (exOf Dn τ)
theorem psd_ret (he : PD X W e te) : PSD X W (.Return (some e) pos) (dRet te) :=
  ⟨PSimp (ps_ret he.run) fun De σ H ⟨τ, M, Dd, hs, hr, q, we, nc⟩ => ⟨τ, M, _, _, hs, hr, q, fun x M' h => we x τ M' h, fun d M1 v H1 q1 e1 r1 h1 => nc.rt d M1 v H1 q1 e1 r1 h1⟩⟩
def dRetN : DS := fun Dn τ M => Dn.rt .non M
theorem psd_retN : PSD X W (.Return none pos) dRetN := ⟨PSimp ps_retN fun De σ H ⟨τ, M, Dd, hs, hr, q, we, nc⟩ => nc.rt .non M .non H q .refl .non hr⟩
def dIfS (c : DT) (t u : DS) : DS := fun Dn τ M => c τ M (fun b M1 => if b = true then t Dn τ M1 else u Dn τ M1) (exOf Dn τ)
theorem psd_if {c : Expr} {a b : List Stmt} {tc : DT} (hc : PTD X W c tc) (ha : PSsD X W a t) (hb : PSsD X W b u) : PSD X W (.If c a b pos) (dIfS tc t u) :=
  ⟨PSimp (ps_if hc.run ha.run hb.run) fun De σ H ⟨τ, M, Dd, hs, hr, q, we, nc⟩ => ⟨τ, M, _, _, hs, hr, q, fun x M' h => we x τ M' h, fun b M1 H1 q1 e1 h1 => by
    cases b with
    | true => exact ⟨τ, M1, Dd, hs.mono e1, h1, (by simpa using q1), we, nc.mono e1⟩
    | false => exact ⟨τ, M1, Dd, hs.mono e1, h1, (by simpa using q1), we, nc.mono e1⟩⟩⟩
def dNever : DS := fun _ _ _ => False
theorem psd_never : PSD X W st dNever := ⟨PSimp ps_never fun De σ H ⟨_, _, _, _, _, q, _⟩ => q⟩
/-- e if c else e' -/
def dIfE (c : DT) (t u : DE) : DE := fun τ M Q E => c τ M (fun b M1 => if b = true then t τ M1 Q E else u τ M1 Q E) E
theorem pd_ifE {c a b : Expr} {tc : DT} {ta tb : DE} (hc : PTD X W c tc) (ha : PD X W a ta) (hb : PD X W b tb) : PD X W (.IfExp c a b pos) (dIfE tc ta tb) :=
  ⟨PEimp (pe_ifExp hc.run ha.run hb.run) fun σ H Q ⟨τ, M, Qd, Ed, hs, hr, q, we, k⟩ => ⟨τ, M, _, Ed, hs, hr, q, we, fun b M1 H1 q1 e1 h1 => by
    cases b with
    | true => exact ⟨τ, M1, Qd, Ed, hs.mono e1, h1, (by simpa using q1), we, k.mono e1⟩
    | false => exact ⟨τ, M1, Qd, Ed, hs.mono e1, h1, (by simpa using q1), we, k.mono e1⟩⟩⟩
end

/-! ### targets -/
abbrev DGt := D → Sl → Mp → (Sl → Mp → Prop) → Prop
abbrev DGs := List D → Sl → Mp → (Sl → Mp → Prop) → Prop
section
variable (K : PySem.W.Frag)
def liftG (H0 : Hp) (g : DGt) : TG := fun v σ H Q => ∃ d τ M Qd, Rp K H v d ∧ RS K H0 H σ τ ∧ HR K H M ∧ g d τ M Qd ∧ ∀ τ' M' σ' H', Qd τ' M' → TExt K H H' → RS K H0 H' σ' τ' → HR K H' M' → Q σ' H'
def liftGs (H0 : Hp) (g : DGs) : TGs := fun vs σ H Q => ∃ ds τ M Qd, RpL K H vs ds ∧ RS K H0 H σ τ ∧ HR K H M ∧ g ds τ M Qd ∧ ∀ τ' M' σ' H', Qd τ' M' → TExt K H H' → RS K H0 H' σ' τ' → HR K H' M' → Q σ' H'
end
section
variable {X : Cx} {W : DW} {pos : Pos}
structure PGD (X : Cx) (H0 : Hp) (tg : Expr) (g : DGt) : Prop where
  run : PG X tg (liftG X.K H0 g)
structure PGsD (X : Cx) (H0 : Hp) (tg : List Expr) (g : DGs) : Prop where
  run : PGs X tg (liftGs X.K H0 g)
theorem PGimp {tg : Expr} {t t' : TG} (h : PG X tg t) (i : ∀ v σ H Q, t' v σ H Q → t v σ H Q) : PG X tg t' := ⟨fun pins s σ H v u Q I r q => h.run pins s σ H v u Q I r (i v σ H Q q)⟩
theorem PGsimp {tg : List Expr} {t t' : TGs} (h : PGs X tg t) (i : ∀ v σ H Q, t' v σ H Q → t v σ H Q) : PGs X tg t' := ⟨fun pins s σ H v u Q I r q => h.run pins s σ H v u Q I r (i v σ H Q q)⟩
def dName (i : Nat) : DGt := fun d τ M Q => Q (τ.set i (some d)) M
theorem pgd_name {H0 : Hp} {i : Nat} {tg : Expr} (h : PG X tg (gName i)) : PGD X H0 tg (dName i) := ⟨PGimp h fun v σ H Q ⟨d, τ, M, Qd, r, hs, hr, q, k⟩ => k _ M _ H q .refl (hs.set r) hr⟩
def dGNil : DGs := fun ds τ M Q => match ds with | [] => Q τ M | _ => False
def dGCons (g : DGt) (gs : DGs) : DGs := fun ds τ M Q => match ds with | d :: r => g d τ M (fun τ1 M1 => gs r τ1 M1 Q) | [] => False
theorem pgsd_nil {H0 : Hp} : PGsD X H0 [] dGNil := ⟨PGsimp pgs_nil fun vs σ H Q ⟨ds, τ, M, Qd, r, hs, hr, q, k⟩ => by
  unfold dGNil at q
  split at q
  · exact ⟨r.nil_of, k τ M σ H q .refl hs hr⟩
  · exact q.elim⟩
theorem pgsd_cons {H0 : Hp} {e : Expr} {es : List Expr} {g : DGt} {gs : DGs} (h1 : PGD X H0 e g) (h2 : PGsD X H0 es gs)
    (hs : (assignEach (e :: es) X.env).map (·.2) = assign e X.env :: (assignEach es X.env).map (·.2) := by rfl) : PGsD X H0 (e :: es) (dGCons g gs) := ⟨PGsimp (pgs_cons h1.run h2.run hs) fun vs σ H Q ⟨ds, τ, M, Qd, r, hs, hr, q, k⟩ => by
  unfold dGCons at q
  split at q
  · rename_i d dr
    cases r with
    | cons rv rl =>
      refine ⟨_, _, rfl, d, τ, M, _, rv, hs, hr, q, fun τ1 M1 σ1 H1 q1 e1 hs1 hr1 => ?_⟩
      exact ⟨dr, τ1, M1, Qd, rl.mono e1, hs1, hr1, q1, fun τ2 M2 σ2 H2 q2 e2 => k τ2 M2 σ2 H2 q2 (e1.trans e2)⟩
  · exact q.elim⟩
/-- a tuple or a list taken apart -/
def dGTup (n : Nat) (gs : DGs) : DGt := fun d τ M Q => match d with
  | .tup ds => ds.length = n ∧ gs ds τ M Q
  | .ref a => match seqOf M a with
    | some ds => ds.length = n ∧ gs ds τ M Q
    | none => False
  | _ => False
theorem PGor {tg : Expr} {t t' : TG} (h : PG X tg t) (h' : PG X tg t') : PG X tg (fun v σ H Q => t v σ H Q ∨ t' v σ H Q) := ⟨fun pins s σ H v u Q I r q => q.elim (fun z => h.run pins s σ H v u Q I r z) fun z => h'.run pins s σ H v u Q I r z⟩
theorem pgd_tup {H0 : Hp} {es : List Expr} {k : Nat} {gs : DGs} {n : Nat} (hc : X.calm = true) (h : PGsD X H0 es gs)
    (hn : (assignEach es X.env).length = n := by rfl) (hst : (assignEach es X.env).findIdx? (·.1) = none := by rfl) : PGD X H0 (.Tuple es k pos) (dGTup n gs) :=
  ⟨PGimp (PGor (pg_tup hc h.run hn hst) (pg_lst hc h.run hn hst)) fun v σ H Q ⟨d, τ, M, Qd, r, hs, hr, q, k⟩ => by
    unfold dGTup at q
    split at q
    · obtain ⟨a, vs, rfl, s, l⟩ := r.toTup
      exact .inl ⟨a, vs, rfl, s, by rw [l.length]; exact q.1, _, τ, M, Qd, l, hs, hr, q.2, k⟩
    · split at q
      · rename_i ds e
        obtain ⟨vs, s, l⟩ := seqOf_ok hr e
        exact .inr ⟨_, vs, r.toRef, s, by rw [l.length]; exact q.1, _, τ, M, Qd, l, hs, hr, q.2, k⟩
      · exact q.elim
    · exact q.elim⟩
/-- o[i] = .. of a list -/
def dGSub (to ti : DE) : DGt := fun v τ M Q => to τ M (fun o M1 => ti τ M1 (fun i M2 => match o, i with
  | .ref a, .int k => match M2 a with
    | some (.lst xs) => match ixN xs.length k with
      | some j => Q τ (put M2 a (.lst (xs.set j v)))
      | none => False
    | _ => False
  | _, _ => False) fun _ _ => False) fun _ _ => False
theorem pgd_sub {o i : Expr} {to ti : DE} (ho : PD X W o to) (hi : PD X W i ti)
    (ha : ∀ v, assign (.Subscript o i pos) X.env v = (do
      let ov ← holding [v] (eval o X.env)
      let iv ← holding [v, ov] (eval i X.env)
      standAt pos
      holding [v, ov, iv] (setItem ov iv v)
      release [v, ov, iv] []) := by intro _; rfl) : PGD X W.h0 (.Subscript o i pos) (dGSub to ti) :=
  ⟨PGimp (pg_sub ho.run hi.run set_list ha) fun v σ H Q ⟨d, τ, M, Qd, r, hs, hr, q, k⟩ => ⟨τ, M, _, _, hs, hr, q, fun _ _ z => z.elim, fun od M1 ov H1 q1 e1 r1 h1 =>
    ⟨τ, M1, _, _, hs.mono e1, h1, q1, fun _ _ z => z.elim, fun id M2 iv H2 q2 e2 r2 h2 => by
      dsimp only at q2
      split at q2
      · rename_i a kk
        split at q2
        · rename_i xs ea
          split at q2
          · rename_i j ej
            obtain ⟨vs, hv, l⟩ := h2.lst ea
            have e3 : TExt X.K H2 (upd H2 a (.lst (vs.set j v))) := .upd (noTup_lst hv)
            refine ⟨a, vs, kk, j, (r1.mono e2).toRef, r2.toInt, hv, by rw [l.length]; exact ej, ?_⟩
            exact k τ _ σ _ q2 (e1.trans (e2.trans e3)) (hs.mono (e1.trans (e2.trans e3))) (h2.made (noTup_lst hv) ⟨_, upd_same, ((l.set (r.mono (e1.trans e2)) j)).mono e3⟩)
          · exact q2.elim
        · exact q2.elim
      · exact q2.elim⟩⟩⟩
/-- target = value -/
def dAsg (te : DE) (g : DGt) : DS := fun Dn τ M => te τ M (fun d M1 => g d τ M1 Dn.nx) (exOf Dn τ)
theorem psd_asg {tg e : Expr} {te : DE} {g : DGt} (he : PD X W e te) (hg : PGD X W.h0 tg g) (hs : swapsWithSole [tg] e pos.line X.env = pure false := by rfl) (hw : swappedStores [tg] e X.env = pure none := by rfl)
    (h1 : (assignEach [tg] X.env).map (·.2) = [assign tg X.env] := by rfl) : PSD X W (.Assign [tg] e pos) (dAsg te g) :=
  ⟨PSimp (ps_asg he.run hg.run hs hw h1) fun De σ H ⟨τ, M, Dd, hs, hr, q, we, nc⟩ => ⟨τ, M, _, _, hs, hr, q, fun x M' h => we x τ M' h, fun d M1 v H1 q1 e1 r1 h1 =>
    ⟨d, τ, M1, _, r1, hs.mono e1, h1, q1, fun τ' M' σ' H' q' e' hs' hr' => nc.nx τ' M' σ' H' q' (e1.trans e') hs' hr'⟩⟩⟩
/-- name = value -/
theorem psd_set {i : Nat} {x : Str} {e : Expr} {te : DE} {pos' : Pos} (hN : X.N.Nodup) (hi : X.N[i]? = some x) (hx : Loc X.env.scope x) (he : PD X W e te) (hs : swapsWith e (some (.Name x pos')) pos.line X.env = pure false := by rfl) (hf : X.fn x = true ∨ X.env.scope.names.lookup x = some .local := by first | exact .inl rfl | exact .inr rfl | assumption) :
    PSD X W (.Assign [.Name x pos'] e pos) (dAsg te (dName i)) :=
  ⟨PSimp (ps_set hN hi hx he.run hs hf) fun De σ H ⟨τ, M, Dd, hs, hr, q, we, nc⟩ => ⟨τ, M, _, _, hs, hr, q, fun x M' h => we x τ M' h, fun d M1 v H1 q1 e1 r1 h1 =>
    nc.nx _ M1 _ H1 q1 e1 ((hs.mono e1).set r1) h1⟩⟩
/-- name op= e -/
def dAug (i : Nat) (te : DE) (g : DO) : DS := fun Dn τ M => match slot τ i with
  | some x => te τ M (fun y M1 => g x y M1 (fun z M2 => Dn.nx (τ.set i (some z)) M2)) (exOf Dn τ)
  | none => False
theorem psd_aug {i : Nat} {x : Str} {e : Expr} {te : DE} {op : Operator} {g : DO} {pos' : Pos} (hN : X.N.Nodup) (hi : X.N[i]? = some x) (hx : Loc X.env.scope x) (he : PD X W e te) (ho : OpR X (inplaceOp op) (liftO X.K g)) (hf : X.fn x = true ∨ X.env.scope.names.lookup x = some .local := by first | exact .inl rfl | exact .inr rfl | assumption) :
    PSD X W (.AugAssign (.Name x pos') op e pos) (dAug i te g) :=
  ⟨PSimp (ps_aug hN hi hx he.run (ti := liftO X.K g) ho hf) fun De σ H ⟨τ, M, Dd, hs, hr, q, we, nc⟩ => by
    unfold dAug at q
    split at q
    · rename_i d ed
      obtain ⟨v, ev, rv⟩ := hs.at_ i d (slot_eq ed)
      refine ⟨v, ev, τ, M, _, _, hs, hr, q, fun x M' h => we x τ M' h, fun y M1 u H1 q1 e1 r1 h1 => ?_⟩
      exact ⟨d, y, M1, _, q1, rv.mono e1, r1, h1, fun z M2 w H2 q2 e2 r2 h2 => nc.nx _ M2 _ H2 q2 (e1.trans e2) ((hs.mono (e1.trans e2)).set r2) h2⟩
    · exact q.elim⟩
theorem iop_addI : OpR X (inplaceOp .Add) (liftO X.K (oI0 fun i j => .int (i + j))) := oI0_of iop_add fun _ _ _ => .int _
theorem iop_subI : OpR X (inplaceOp .Sub) (liftO X.K (oI0 fun i j => .int (i - j))) := oI0_of iop_sub fun _ _ _ => .int _
/-- o.f = value -/
def putFD (f : Str) (v : D) : List (Str × D) → List (Str × D)
  | [] => [(f, v)]
  | p :: r => if p.1 = f then (p.1, v) :: r else p :: putFD f v r
theorem FD.put {K : PySem.W.Frag} {H : Hp} {f : Str} {v : V} {d : D} (r : Rp K H v d) : ∀ {vs : List (Str × V)} {fs : List (Str × D)}, FD K H vs fs → FD K H (putF f v vs) (putFD f d fs)
  | [], [], _ => ⟨rfl, r, trivial⟩
  | (p1, p2) :: ps, (q1, q2) :: qs, ⟨e, r', l⟩ => by
    simp only at e
    subst e
    unfold putF putFD
    by_cases c : p1 = f
    · simp only [c, if_true]; exact ⟨rfl, r, l⟩
    · simp only [c, if_false]; exact ⟨rfl, r', FD.put r l⟩
  | [], _ :: _, h => h.elim
  | _ :: _, [], h => h.elim
theorem FD.length {K : PySem.W.Frag} {H : Hp} : ∀ {vs : List (Str × V)} {fs : List (Str × D)}, FD K H vs fs → vs.length = fs.length
  | [], [], _ => rfl
  | _ :: _, _ :: _, ⟨_, _, l⟩ => by simp [FD.length l]
  | [], _ :: _, h => h.elim
  | _ :: _, [], h => h.elim
theorem FD.look_none {K : PySem.W.Frag} {H : Hp} {f : Str} : ∀ {vs : List (Str × V)} {fs : List (Str × D)}, FD K H vs fs → fs.lookup f = none → vs.lookup f = none
  | [], [], _, _ => rfl
  | (p1, p2) :: ps, (q1, q2) :: qs, ⟨e, r', l⟩, h => by
    simp only at e
    subst e
    by_cases c : (f == p1) = true
    · rw [List.lookup_cons, c] at h; cases h
    · have c' : (f == p1) = false := by simpa using c
      rw [List.lookup_cons, c'] at h ⊢
      exact FD.look_none l h
  | [], _ :: _, h, _ => h.elim
  | _ :: _, [], h, _ => h.elim
def dFldS (K : PySem.W.Frag) (to te : DE) (f : Str) : DS := fun Dn τ M => te τ M (fun v M1 => to τ M1 (fun o M2 => match o with
  | .ref a => match M2 a with
    | some (.ins C fs) => FldK K C f ∧ fs.length < 1000 ∧ Dn.nx τ (put M2 a (.ins C (putFD f v fs)))
    | _ => False
  | _ => False) (exOf Dn τ)) (exOf Dn τ)
theorem psd_fld {o e : Expr} {to te : DE} {f : Str} {pos' : Pos} (ho : PD X W o to) (he : PD X W e te) (hs : swapsWith e (some (.Attribute o f pos')) pos.line X.env = pure false := by rfl) : PSD X W (.Assign [.Attribute o f pos'] e pos) (dFldS X.K to te f) :=
  ⟨PSimp (ps_fld ho.run he.run hs) fun De σ H ⟨τ, M, Dd, hs, hr, q, we, nc⟩ => ⟨τ, M, _, _, hs, hr, q, fun x M' h => we x τ M' h, fun d M1 v H1 q1 e1 r1 h1 =>
    ⟨τ, M1, _, _, hs.mono e1, h1, q1, fun x M' h => we x τ M' h, fun od M2 ov H2 q2 e2 r2 h2 => by
      dsimp only at q2
      split at q2
      · rename_i a
        split at q2
        · rename_i C fs ea
          obtain ⟨⟨c, n⟩, hl, q2⟩ := q2
          obtain ⟨dx, vs, hv, fd⟩ := h2.ins ea
          have e3 : TExt X.K H2 (upd H2 a (.ins C dx (putF f v vs))) := .upd (noTup_ins hv)
          refine ⟨a, C, dx, vs, r2.toRef, hv, c, n, by rw [fd.length]; exact hl, ?_⟩
          exact nc.nx τ _ σ _ q2 (e1.trans (e2.trans e3)) (hs.mono (e1.trans (e2.trans e3))) (h2.made (noTup_ins hv) ⟨dx, _, upd_same, (FD.put (r1.mono e2) fd).mono e3⟩)
        · exact q2.elim
      · exact q2.elim⟩⟩⟩
end

/-! ### while -/
section
variable {X : Cx} {W : DW} {pos : Pos}
def dWhN (c : DT) (tb : DS) : Nat → DN → Sl → Mp → Prop
  | 0, _, _, _ => False
  | n + 1, Dn, τ, M => c τ M (fun b M1 => if b = true then tb { Dn with nx := dWhN c tb n Dn, ct := dWhN c tb n Dn, bk := Dn.nx } τ M1 else Dn.nx τ M1) (exOf Dn τ)
def dWhile (c : DT) (tb : DS) : DS := fun Dn τ M => ∃ n, dWhN c tb n Dn τ M
theorem psd_while {c : Expr} {body : List Stmt} {tc : DT} {tb : DS} (hp : PassesOwn (model X.prog X.w) X.A X.env X.xe) (hc : PTD X W c tc) (hb : PSsD X W body tb) : PSD X W (.While c body [] pos) (dWhile tc tb) :=
  ⟨PSimp (ps_while hp hc.run hb.run) fun De σ H ⟨τ, M, Dd, hs, hr, ⟨n, q⟩, we, nc⟩ => by
    refine ⟨fun m σ' H' => ∃ τ' M', TExt X.K H H' ∧ RS X.K W.h0 H' σ' τ' ∧ HR X.K H' M' ∧ dWhN tc tb m Dd τ' M', ⟨n, τ, M, .refl, hs, hr, q⟩, ?_⟩
    rintro m σ1 H1 ⟨τ1, M1, e1, hs1, hr1, q1⟩
    cases m with
    | zero => exact q1.elim
    | succ m =>
      refine ⟨τ1, M1, _, _, hs1, hr1, q1, fun x M' h => we x τ1 M' h, fun b M2 H2 q2 e2 h2 => ?_⟩
      cases b with
      | false => exact nc.nx τ1 M2 σ1 H2 (by simpa using q2) (e1.trans e2) (hs1.mono e2) h2
      | true =>
        simp only [if_true] at q2 ⊢
        refine ⟨fun σ' H' => ∃ τ' M', TExt X.K H H' ∧ RS X.K W.h0 H' σ' τ' ∧ HR X.K H' M' ∧ dWhN tc tb m Dd τ' M', fun σ' H' h => ⟨m, Nat.lt_succ_self m, h⟩, ?_⟩
        exact ⟨τ1, M2, _, hs1.mono e2, h2, q2, we, ⟨fun τ' M' σ' H' h e' hs' hr' => ⟨τ', M', e1.trans (e2.trans e'), hs', hr', h⟩, fun d M' v H' h e' => nc.rt d M' v H' h (e1.trans (e2.trans e')),
          fun τ' M' σ' H' h e' => nc.nx τ' M' σ' H' h (e1.trans (e2.trans e')), fun τ' M' σ' H' h e' hs' hr' => ⟨τ', M', e1.trans (e2.trans e'), hs', hr', h⟩⟩⟩⟩
end

/-! ### what is walked -/
/-- J walks its, as long as kp holds -/
structure ItOk (K : PySem.W.Frag) (H0 : Hp) (J : It) (its : List D) (kp : Mp → Prop) : Prop where
  small : its.length ≤ sizeLine
  go : ∀ i H M, TExt K H0 H → HR K H M → kp M → i < its.length → J.go i H
  stop : ∀ i H M, TExt K H0 H → HR K H M → kp M → its.length ≤ i → J.stop i H
  yld : ∀ i H M x H', TExt K H0 H → HR K H M → kp M → J.yld i H x H' → TExt K H H' ∧ (∀ M', HR K H M' → HR K H' M') ∧ ∀ d, its[i]? = some d → Rp K H' x d
abbrev DI := Sl → Mp → (List D → (Mp → Prop) → Mp → Prop) → EK → Prop
def liftI (K : PySem.W.Frag) (W : DW) (t : DI) : TI := fun σ H R => ∃ τ M Qd Ed, RS K W.h0 H σ τ ∧ HR K H M ∧ t τ M Qd Ed ∧ (∀ x M', Ed x M' → W.w x τ M') ∧ ∀ its kp J M' H', Qd its kp M' → TExt K H H' → HR K H' M' → ItOk K H' J its kp → R J H'
structure PID (X : Cx) (W : DW) (tg iter : Expr) (t : DI) : Prop where
  run : PI X tg iter (liftI X.K W t)
/-- what a value gives when it is walked -/
def itemsOf (d : D) (M : Mp) : Option (List D) := match d with
  | .tup xs => some xs
  | .ref a => seqOf M a
  | .str z => if z.length ≤ sizeLine then some (z.cps.toList.map fun c => .str ⟨#[c]⟩) else none
  | _ => none
def keepOf (d : D) (its : List D) : Mp → Prop := match d with
  | .ref a => fun M => seqOf M a = some its
  | _ => fun _ => True
def dIter (te : DE) : DI := fun τ M Q E => te τ M (fun d M1 => match itemsOf d M1 with
  | some its => Q its (keepOf d its) M1
  | none => False) E
section
variable {X : Cx} {W : DW} {tg : Expr} {pins : List (Addr × Obj)} {s : Shared} {σ : St} {H : Hp} {R : It → Hp → Prop} {E : Value → Shared → Prop}
theorem iter_lst {a : Addr} {xs : List V} (I : Inv X pins σ H s) (hq : SqL X.K H a xs) (q : R (Itl X.K a) H) : wpAny (model X.prog X.w) X.A (pyIter (.ref a)) (PIE X pins σ tg R) E s := by
  obtain ⟨its, rv, pl, hz⟩ := I.list hq
  refine wpAny_pyIter_list pl.isList ⟨s.heap.objs.size, [s.heap.objs.size], _, _, H, rfl, I.kept (t' := s.toks) fun b o e => Heap.get?_push_of_some _ e, turn_list a _, ⟨_, Heap.get?_push_size _ rfl, rfl, rfl⟩, fun b hb => ?_, q⟩
  obtain rfl : b = s.heap.objs.size := by simpa using hb
  exact I.fpOk (Nat.le_refl _) (I.hok.fresh (Nat.le_refl _))
theorem iter_tup {a : Addr} {xs : List V} (I : Inv X pins σ H s) (hq : SqT X.K H a xs) (q : R (Itt X.K a) H) : wpAny (model X.prog X.w) X.A (pyIter (.ref a)) (PIE X pins σ tg R) E s := by
  obtain ⟨its, rv, pl, hz⟩ := I.tuple hq
  refine wpAny_pyIter_tuple (show s.heap.IsTuple a its.toArray from pl) ⟨s.heap.objs.size, [s.heap.objs.size], _, _, H, rfl, I.kept (t' := s.toks) fun b o e => Heap.get?_push_of_some _ e, turn_tuple a _, ⟨_, Heap.get?_push_size _ rfl, rfl, rfl⟩, fun b hb => ?_, q⟩
  obtain rfl : b = s.heap.objs.size := by simpa using hb
  exact I.fpOk (Nat.le_refl _) (I.hok.fresh (Nat.le_refl _))
theorem iter_str {z : Str} {u : Value} (I : Inv X pins σ H s) (hu : RelV (.str z) u) (q : R (Its z) H) : wpAny (model X.prog X.w) X.A (pyIter u) (PIE X pins σ tg R) E s := by
  obtain ⟨t, rfl⟩ := hu
  cases ha : z.cps.all (· < 128) with
  | false => exact wpAny_pyIter_wide ha (pi_one (tk := s.toks) I _ (turn_str _ z t _ (.inr rfl)) ⟨_, Heap.get?_push_size _ rfl, rfl, rfl⟩ q)
  | true => exact wpAny_pyIter_ascii ha (pi_one (tk := s.toks) I _ (turn_str _ z t _ (.inl rfl)) ⟨_, Heap.get?_push_size _ rfl, rfl, rfl⟩ q)
theorem itOk_tup {K : PySem.W.Frag} {H : Hp} {a : Addr} {vs : List V} {ds : List D} (s : SqT K H a vs) (l : RpL K H vs ds) (z : vs.length ≤ sizeLine) : ItOk K H (Itt K a) ds fun _ => True where
  small := by rw [← l.length]; exact z
  go := fun i H1 M e _ _ hi => ⟨vs, vs[i]'(by rw [l.length]; exact hi), e.tup _ _ s, by simp⟩
  stop := fun i H1 M e _ _ hi => ⟨vs, e.tup _ _ s, by rw [l.length]; exact hi⟩
  yld := fun i H1 M x H2 e _ _ y => by
    obtain ⟨rfl, y⟩ := y
    have hx := y vs (e.tup _ _ s)
    refine ⟨.refl, fun _ h => h, fun d hd => ?_⟩
    obtain ⟨v, ev, rv⟩ := (l.mono e).get hd
    rw [hx] at ev
    cases ev
    exact rv
theorem itOk_lst {K : PySem.W.Frag} {H : Hp} {a : Addr} {vs : List V} {ds : List D} (l : RpL K H vs ds) (z : vs.length ≤ sizeLine) : ItOk K H (Itl K a) ds fun M => seqOf M a = some ds where
  small := by rw [← l.length]; exact z
  go := fun i H1 M e hr k hi => by
    obtain ⟨us, s, l'⟩ := seqOf_ok hr k
    exact ⟨us, us[i]'(by rw [l'.length]; exact hi), s, by simp⟩
  stop := fun i H1 M e hr k hi => by
    obtain ⟨us, s, l'⟩ := seqOf_ok hr k
    exact ⟨us, s, by rw [l'.length]; exact hi⟩
  yld := fun i H1 M x H2 e hr k y => by
    obtain ⟨rfl, y⟩ := y
    obtain ⟨us, s, l'⟩ := seqOf_ok hr k
    have hx := y us s
    refine ⟨.refl, fun _ h => h, fun d hd => ?_⟩
    obtain ⟨v, ev, rv⟩ := l'.get hd
    rw [hx] at ev
    cases ev
    exact rv
theorem itOk_str {K : PySem.W.Frag} {H : Hp} {z : Str} (hz : z.length ≤ sizeLine) : ItOk K H (Its z) (z.cps.toList.map fun c => D.str ⟨#[c]⟩) fun _ => True where
  small := by simpa [Str.length] using hz
  go := fun i H1 M e _ _ hi => show i < z.cps.size by simpa using hi
  stop := fun i H1 M e _ _ hi => show z.cps.size ≤ i by simpa using hi
  yld := fun i H1 M x H2 e _ _ y => by
    obtain ⟨rfl, c, hc, rfl⟩ := y
    refine ⟨.refl, fun _ h => h, fun d hd => ?_⟩
    rw [List.getElem?_map, Array.getElem?_toList, hc] at hd
    cases hd
    exact .str _
theorem itOk_rng {K : PySem.W.Frag} {H : Hp} {lo : Int} {n : Nat} (hz : n ≤ sizeLine) : ItOk K H (Itr lo n) ((List.range n).map fun i => D.int (lo + (i : Nat))) fun _ => True where
  small := by simpa using hz
  go := fun i H1 M e _ _ hi => show i < n by simpa using hi
  stop := fun i H1 M e _ _ hi => show n ≤ i by simpa using hi
  yld := fun i H1 M x H2 e _ _ y => by
    obtain ⟨rfl, rfl⟩ := y
    refine ⟨.refl, fun _ h => h, fun d hd => ?_⟩
    by_cases hi : i < n
    · rw [List.getElem?_map, List.getElem?_range hi] at hd
      cases hd
      exact .int _
    · rw [List.getElem?_eq_none (by simpa using hi)] at hd
      cases hd
theorem pid_any {e : Expr} {te : DE} (he : PD X W e te) : PID X W tg e (dIter te) := ⟨⟨fun pins s σ H R I ⟨τ, M, Qd, Ed, hs, hr, q, we, k⟩ => by
  refine thn (he.run.run pins s σ H (fun v H1 => ∃ d M1, Rp X.K H1 v d ∧ HR X.K H1 M1 ∧ TExt X.K H H1 ∧ match itemsOf d M1 with
    | some its => Qd its (keepOf d its) M1
    | none => False) I ⟨τ, M, _, Ed, hs, hr, q, we, fun d M1 v H1 q1 e1 r1 h1 => ⟨d, M1, r1, h1, e1, q1⟩⟩) fun u s1 ⟨v, H1, I1, rv, d, M1, r1, h1, e1, q1⟩ => ?_
  split at q1
  · rename_i its ei
    cases d with
    | tup xs =>
      obtain ⟨a, vs, rfl, sq, l⟩ := r1.toTup
      cases rv
      cases ei
      obtain ⟨_, _, _, z⟩ := I1.tuple sq
      exact iter_tup I1 sq (k _ _ _ M1 H1 q1 e1 h1 (itOk_tup sq l z))
    | ref a =>
      have ea := r1.toRef
      subst ea
      cases rv
      obtain ⟨vs, sq, l⟩ := seqOf_ok h1 ei
      obtain ⟨_, _, _, z⟩ := I1.list sq
      exact iter_lst I1 sq (k _ _ _ M1 H1 q1 e1 h1 (itOk_lst l z))
    | str z =>
      have ea := r1.toStr
      subst ea
      have ei' : (if z.length ≤ sizeLine then some (z.cps.toList.map fun c => D.str ⟨#[c]⟩) else none) = some its := ei
      by_cases c : z.length ≤ sizeLine
      · rw [if_pos c] at ei'
        cases ei'
        exact iter_str I1 rv (k _ _ _ M1 H1 q1 e1 h1 (itOk_str c))
      · rw [if_neg c] at ei'; cases ei'
    | _ => cases ei
  · exact q1.elim⟩⟩
end
end DL

set_option maxHeartbeats 4000000
namespace DL
open PySem L2
section
variable {X : Cx} {W : DW} {tg : Expr} {pos p : Pos} {ta : DA}
/-! ### range -/
def dRng1 (ta : DA) : DI := fun τ M Q E => ta τ M (fun ds M1 => match ds with
  | [.int j] => j ≤ 16777216 ∧ -(2 ^ 62) ≤ j ∧ Q ((List.range j.toNat).map fun i => D.int (i : Nat)) (fun _ => True) M1
  | _ => False) E
def dRng2 (ta : DA) : DI := fun τ M Q E => ta τ M (fun ds M1 => match ds with
  | [.int i, .int j] => (-(2 ^ 62) ≤ i ∧ i < 2 ^ 62 ∧ -(2 ^ 62) ≤ j ∧ j < 2 ^ 62) ∧ j - i ≤ 16777216 ∧ Q ((List.range (j - i).toNat).map fun k => D.int (i + (k : Nat))) (fun _ => True) M1
  | _ => False) E
theorem PIimp {iter : Expr} {t t' : TI} (h : PI X tg iter t) (i : ∀ σ H R, t' σ H R → t σ H R) : PI X tg iter t' := ⟨fun pins s σ H R I q => h.run pins s σ H R I (i σ H R q)⟩
theorem pid_rng1 {a : Expr} (hg : Gl X "range") (hm : X.mg "range" = none) (ha : PAD X W [a] ta) (hs : starEach [a] X.env = [(false, eval a X.env)] := by rfl) : PID X W tg (.Call (.Name "range" p) [a] [] pos) (dRng1 ta) :=
  ⟨PIimp (pi_range1 hg hm ha.run hs) fun σ H R ⟨τ, M, Qd, Ed, hs, hr, q, we, k⟩ => ⟨τ, M, _, Ed, hs, hr, q, we, fun ds M1 vs H1 q1 e1 r1 h1 => by
    split at q1
    · rename_i j
      obtain ⟨v, rfl, rv⟩ := r1.one
      obtain ⟨c1, c2, q1⟩ := q1
      refine ⟨j, by rw [rv.toInt], c2, by omega, k _ _ _ M1 H1 q1 e1 h1 ?_⟩
      have := itOk_rng (K := X.K) (H := H1) (lo := 0) (n := j.toNat) (by rw [sizeLine_eq]; omega)
      simpa using this
    · exact q1.elim⟩⟩
theorem pid_rng2 {a b : Expr} (hg : Gl X "range") (hm : X.mg "range" = none) (ha : PAD X W [a, b] ta) (hs : starEach [a, b] X.env = [(false, eval a X.env), (false, eval b X.env)] := by rfl) (hs2 : starEach [b] X.env = [(false, eval b X.env)] := by rfl) : PID X W tg (.Call (.Name "range" p) [a, b] [] pos) (dRng2 ta) :=
  ⟨PIimp (pi_range2 hg hm ha.run hs hs2) fun σ H R ⟨τ, M, Qd, Ed, hs, hr, q, we, k⟩ => ⟨τ, M, _, Ed, hs, hr, q, we, fun ds M1 vs H1 q1 e1 r1 h1 => by
    split at q1
    · rename_i i j
      obtain ⟨v, v', rfl, rv, rv'⟩ := r1.two
      obtain ⟨c1, c2, q1⟩ := q1
      refine ⟨i, j, by rw [rv.toInt, rv'.toInt], c1, k _ _ _ M1 H1 q1 e1 h1 (itOk_rng (by rw [sizeLine_eq]; omega))⟩
    · exact q1.elim⟩⟩

/-! ### for -/
def dLoop (g : DGt) (tb : DS) (kp : Mp → Prop) : List D → DN → Sl → Mp → Prop
  | [], Dn, τ, M => kp M ∧ Dn.nx τ M
  | d :: ds, Dn, τ, M => kp M ∧ g d τ M fun τ2 M2 => tb { Dn with nx := dLoop g tb kp ds Dn, ct := dLoop g tb kp ds Dn, bk := Dn.nx } τ2 M2
def dFor (ti : DI) (g : DGt) (tb : DS) : DS := fun Dn τ M => ti τ M (fun its kp M1 => dLoop g tb kp its Dn τ M1) (exOf Dn τ)
theorem psd_for {iter : Expr} {body : List Stmt} {ti : DI} {g : DGt} {tb : DS} (hp : PassesOwn (model X.prog X.w) X.A X.env X.xe) (hc : X.calm = true) (hi : PID X W tg iter ti) (hg : PGD X W.h0 tg g) (hb : PSsD X W body tb)
    (hs : ∀ x, foldedSetIterable iter X.env x = pure x := by intro _; rfl) : PSD X W (.For tg iter body [] pos) (dFor ti g tb) :=
  ⟨PSimp (ps_for hp hc hi.run hg.run hb.run hs) fun De σ H ⟨τ, M, Dd, hs, hr, q, we, nc⟩ => ⟨τ, M, _, _, hs, hr, q, fun x M' h => we x τ M' h, fun its kp J M1 H1 q1 e1 h1 ok => by
    refine ⟨fun i m σ' H' => m = its.length - i ∧ i ≤ its.length ∧ TExt X.K H1 H' ∧ ∃ τ' M', RS X.K W.h0 H' σ' τ' ∧ HR X.K H' M' ∧ dLoop g tb kp (its.drop i) Dd τ' M', ⟨_, rfl, Nat.zero_le _, .refl, τ, M1, hs.mono e1, h1, by simpa using q1⟩, ?_⟩
    rintro i m σ2 H2 ⟨rfl, hi, e2, τ2, M2, hs2, hr2, q2⟩
    by_cases hlt : i < its.length
    · rw [List.drop_eq_getElem_cons hlt] at q2
      obtain ⟨hk, q2⟩ := q2
      refine .inr ⟨ok.go i H2 M2 e2 hr2 hk hlt, fun σ' H' => TExt X.K H1 H' ∧ ∃ τ' M', RS X.K W.h0 H' σ' τ' ∧ HR X.K H' M' ∧ dLoop g tb kp (its.drop (i + 1)) Dd τ' M', fun σ' H' h => ⟨its.length - (i + 1), by omega, rfl, hlt, h.1, h.2⟩, fun x H3 y => ?_⟩
      obtain ⟨e3, k3, r3⟩ := ok.yld i H2 M2 x H3 e2 hr2 hk y
      have rx := r3 its[i] (by simp [hlt])
      refine ⟨its[i], τ2, M2, _, rx, hs2.mono e3, k3 _ hr2, q2, fun τ4 M4 σ4 H4 q4 e4 hs4 hr4 => ?_⟩
      exact ⟨τ4, M4, _, hs4, hr4, q4, we, ⟨fun τ' M' σ' H' h e' hs' hr' => ⟨e2.trans (e3.trans (e4.trans e')), τ', M', hs', hr', h⟩, fun d M' v H' h e' => nc.rt d M' v H' h (e1.trans (e2.trans (e3.trans (e4.trans e')))),
        fun τ' M' σ' H' h e' => nc.nx τ' M' σ' H' h (e1.trans (e2.trans (e3.trans (e4.trans e')))), fun τ' M' σ' H' h e' hs' hr' => ⟨e2.trans (e3.trans (e4.trans e')), τ', M', hs', hr', h⟩⟩⟩
    · have ei : i = its.length := by omega
      subst ei
      rw [List.drop_length] at q2
      exact .inl ⟨ok.stop _ H2 M2 e2 hr2 q2.1 (Nat.le_refl _), nc.nx τ2 M2 σ2 H2 q2.2 (e1.trans e2) hs2 hr2⟩⟩⟩

/-! ### comprehensions -/
def wipeD (τ : Sl) : List Nat → Sl
  | [] => τ
  | v :: vs => (wipeD τ vs).set v none
theorem wipeD_length (τ : Sl) : ∀ vs : List Nat, (wipeD τ vs).length = τ.length
  | [] => rfl
  | v :: vs => by unfold wipeD; rw [List.length_set, wipeD_length τ vs]
theorem wipeD_some {τ : Sl} {i : Nat} {x : D} : ∀ {vs : List Nat}, (wipeD τ vs)[i]? = some (some x) → τ[i]? = some (some x) ∧ i ∉ vs
  | [], h => ⟨h, by simp⟩
  | v :: vs, h => by
    unfold wipeD at h
    by_cases hi : v = i
    · subst hi
      by_cases hv : v < (wipeD τ vs).length
      · rw [List.getElem?_set_self hv] at h; cases h
      · rw [List.getElem?_eq_none (by simpa using hv)] at h; cases h
    · rw [List.getElem?_set_ne hi] at h
      obtain ⟨a, b⟩ := wipeD_some h
      exact ⟨a, by simpa using ⟨fun e => hi e.symm, b⟩⟩
theorem wipe_out' {σ : St} {i : Nat} : ∀ {vs : List Nat}, i ∉ vs → (wipe σ vs)[i]? = σ[i]?
  | [], _ => rfl
  | v :: vs, h => by
    have h' : v ≠ i ∧ i ∉ vs := by simpa [eq_comm] using h
    unfold wipe
    rw [List.getElem?_set_ne h'.1, wipe_out' h'.2]
theorem wipe_at {σ : St} {i : Nat} (hi : i < σ.length) : ∀ {vs : List Nat}, i ∈ vs → (wipe σ vs)[i]? = some none
  | v :: vs, h => by
    unfold wipe
    by_cases c : v = i
    · subst c; rw [List.getElem?_set_self (by rw [wipe_length]; exact hi)]
    · rw [List.getElem?_set_ne c]
      rcases List.mem_cons.mp h with h | h
      · exact absurd h.symm c
      · exact wipe_at hi h
theorem wipe_same {σ σ' : St} {vs : List Nat} (hl : σ'.length = σ.length) (h : ∀ i, i ∉ vs → σ'[i]? = σ[i]?) : wipe σ' vs = wipe σ vs := by
  apply List.ext_getElem?
  intro i
  by_cases c : i ∈ vs
  · by_cases hi : i < σ.length
    · rw [wipe_at hi c, wipe_at (by omega) c]
    · rw [List.getElem?_eq_none (by rw [wipe_length]; omega), List.getElem?_eq_none (by rw [wipe_length]; omega)]
  · rw [wipe_out' c, wipe_out' c, h i c]
theorem wipe_set {σ : St} {vs : List Nat} {i : Nat} {x : Option V} (h : i ∈ vs) : wipe ((wipe σ vs).set i x) vs = wipe σ vs := by
  apply wipe_same
  · simp [wipe_length]
  · intro j hj
    have : i ≠ j := fun e => hj (e ▸ h)
    rw [List.getElem?_set_ne this, wipe_out' hj]
theorem RS.wipe {K : PySem.W.Frag} {H0 H : Hp} {σ : St} {τ : Sl} (h : RS K H0 H σ τ) (vs : List Nat) (e : TExt K H1 H) : RS K H1 H (L2.wipe σ vs) (wipeD τ vs) := ⟨e, by rw [wipeD_length, wipe_length]; exact h.len, fun i d q => by
  obtain ⟨a, b⟩ := wipeD_some q
  obtain ⟨v, c, r⟩ := h.at_ i d a
  exact ⟨v, (wipe_out' b).trans c, r⟩⟩
def H0n : Hp := fun _ => none
theorem TExt.none {K : PySem.W.Frag} {H : Hp} : TExt K H0n H := ⟨fun a xs h => by
  rcases h with (h | ⟨o, h⟩) | h
  · cases h
  · cases h
  · exact .inr h, fun a o u h => by cases h⟩
/-- within a comprehension nothing is let out -/
def W0 : DW := ⟨H0n, fun _ _ _ => False⟩
def noE : EK := fun _ _ => False
/-- one clause; p is the list that grows -/
def dCL (g : D → Sl → Sl) (tt : DT) (te : DE) (kp : Mp → Prop) (p : Addr) (τ : Sl) (F : Mp → Prop) : List D → Mp → Prop
  | [], M => kp M ∧ F M
  | d :: ds, M => kp M ∧ tt (g d τ) M (fun b M1 => if b = true then te (g d τ) M1 (fun y M2 => match M2 p with
      | some (.lst acc) => acc.length < sizeLine ∧ dCL g tt te kp p τ F ds (put M2 p (.lst (acc ++ [y])))
      | _ => False) noE else dCL g tt te kp p τ F ds M1) noE
def dLc (ti : DI) (g : D → Sl → Sl) (tt : DT) (te : DE) (vs : List Nat) : DE := fun τ M Q E => ti τ M (fun its kp M1 => ∀ p, M1 p = none → dCL g tt te kp p (wipeD τ vs) (fun M2 => Q (.ref p) M2) its (put M1 p (.lst []))) E
structure PTsD (X : Cx) (W : DW) (ifs : List Expr) (t : DT) : Prop where
  run : PTs X ifs (liftT X.K W t)
def dYes : DT := fun _ M Q _ => Q true M
theorem PTsimp {ifs : List Expr} {t t' : TT} (h : PTs X ifs t) (i : ∀ σ H Q, t' σ H Q → t σ H Q) : PTs X ifs t' := ⟨fun pins s σ H Q I q => h.run pins s σ H Q I (i σ H Q q)⟩
theorem ptsd_nil : PTsD X W [] dYes := ⟨PTsimp pts_nil fun σ H Q ⟨τ, M, Qd, Ed, hs, hr, q, we, k⟩ => k true M H q .refl hr⟩
theorem ptsd_one {c : Expr} {t : DT} (h : PTD X W c t) : PTsD X W [c] t := ⟨pts_one h.run⟩
/-- the core, for a target that is one name -/
theorem lc_read {ti : DI} {tt : DT} {te : DE} {i : Nat} {vs : List Nat} {K : PySem.W.Frag} (hi : i ∈ vs) {σ : St} {H : Hp} {Q : VK} (h : liftE K W (dLc ti (fun d τ => τ.set i (some d)) tt te vs) σ H Q) :
    tLc (liftI K W ti) (gName i) (liftT K W0 tt) (liftE K W0 te) vs σ H Q := by
  obtain ⟨τ, M, Qd, Ed, hs, hr, q, we, k⟩ := h
  refine ⟨τ, M, _, Ed, hs, hr, q, we, fun its kp J M1 H1 q1 e1 h1 ok D hD => ?_⟩
  have q2 := q1 D (h1.free hD)
  have e2 : TExt K H1 (upd H1 D (.lst [])) := .new hD
  refine ⟨fun i m H' => m = its.length - i ∧ i ≤ its.length ∧ TExt K (upd H1 D (.lst [])) H' ∧ ∃ M', HR K H' M' ∧ dCL (fun d τ => τ.set _ (some d)) tt te kp D (wipeD τ vs) (fun M2 => Qd (.ref D) M2) (its.drop i) M', ⟨_, rfl, Nat.zero_le _, .refl, _, h1.made (o := .lst []) (noTup_none hD) ⟨[], upd_same, .nil⟩, by simpa using q2⟩, ?_⟩
  rintro j m H2 ⟨rfl, hj, e3, M2, hr2, q3⟩
  by_cases hlt : j < its.length
  · rw [List.drop_eq_getElem_cons hlt] at q3
    obtain ⟨hk, q3⟩ := q3
    refine .inr ⟨ok.go j H2 M2 (e2.trans e3) hr2 hk hlt, fun H' => TExt K (upd H1 D (.lst [])) H' ∧ ∃ M', HR K H' M' ∧ dCL (fun d τ => τ.set _ (some d)) tt te kp D (wipeD τ vs) (fun M2 => Qd (.ref D) M2) (its.drop (j + 1)) M', fun H' h => ⟨its.length - (j + 1), by omega, rfl, hlt, h.1, h.2⟩, fun x H3 y => ?_⟩
    obtain ⟨e4, k4, r4⟩ := ok.yld j H2 M2 x H3 (e2.trans e3) hr2 hk y
    have rx := r4 its[j] (by simp [hlt])
    have hs3 : RS K W0.h0 H3 ((wipe σ vs).set i (some x)) ((wipeD τ vs).set i (some its[j])) := ((hs.mono (e1.trans (e2.trans (e3.trans e4)))).wipe vs .none).set rx
    refine ⟨wipe_set hi, _, M2, _, _, hs3, k4 _ hr2, q3, fun _ _ z => z.elim, fun b M4 H4 q4 e5 h4 => ?_⟩
    cases b with
    | false => exact ⟨e3.trans (e4.trans e5), M4, h4, by simpa using q4⟩
    | true =>
      simp only [if_true] at q4 ⊢
      refine ⟨_, M4, _, _, hs3.mono e5, h4, q4, fun _ _ z => z.elim, fun y M5 v H5 q5 e6 r5 h5 => ?_⟩
      dsimp only at q5
      split at q5
      · rename_i acc ea
        obtain ⟨us, hu, l⟩ := h5.lst ea
        have e7 : TExt K H5 (upd H5 D (.lst (us ++ [v]))) := .upd (noTup_lst hu)
        refine ⟨us, hu, by rw [l.length]; exact q5.1, e3.trans (e4.trans (e5.trans (e6.trans e7))), _, h5.made (o := .lst (acc ++ [y])) (noTup_lst hu) ⟨_, upd_same, (l.append (.cons r5 .nil)).mono e7⟩, q5.2⟩
      · exact q5.elim
  · have ei : j = its.length := by omega
    subst ei
    rw [List.drop_length] at q3
    exact .inl ⟨ok.stop _ H2 M2 (e2.trans e3) hr2 q3.1 (Nat.le_refl _), k _ M2 _ H2 q3.2 (e1.trans (e2.trans e3)) (.ref D) hr2⟩
section
variable {elt iter : Expr} {ifs : List Expr} {scope : Scope} {own : List (Str × Nat)} {ti : DI} {tt : DT} {te : DE} {i : Nat}
theorem pd_lc (hc : X.calm = true) (hN : X.N.Nodup) (hi : PID X W tg iter ti) (ok : BlkOk X.N X.env.scope scope own) (hv : i ∈ own.map (·.2))
    (hg : ∀ (s : Shared) (H : Hp) (C : Addr) (cl : List (Str × Addr)) (fp : List Addr), PG (X.blk s H scope (compEnvC scope cl C X.env) fp) tg (gName i))
    (ht : ∀ (s : Shared) (H : Hp) (C : Addr) (cl : List (Str × Addr)) (fp : List Addr), PTsD (X.blk s H scope (compEnvC scope cl C X.env) fp) W0 ifs tt)
    (he : ∀ (s : Shared) (H : Hp) (C : Addr) (cl : List (Str × Addr)) (fp : List Addr), PD (X.blk s H scope (compEnvC scope cl C X.env) fp) W0 elt te) (hs : ∀ x, foldedSetIterable iter X.env x = pure x := by intro _; rfl) :
    PD X W (.ListComp elt [⟨tg, iter, ifs, 0⟩] scope pos) (dLc ti (fun d τ => τ.set i (some d)) tt te (own.map (·.2))) :=
  ⟨PEimp (pe_lc hc hN hi.run ok hg (fun s H C cl fp => (ht s H C cl fp).run) (fun s H C cl fp => (he s H C cl fp).run) hs) fun σ H Q h => lc_read hv h⟩
/-- name = [..] on one line -/
theorem psd_setLc {j : Nat} {y : Str} {py spos : Pos} (hc : X.calm = true) (hN : X.N.Nodup) (hy : X.N[j]? = some y) (hyl : X.env.scope.names.lookup y = some .local)
    (hsw : swapsWith (.ListComp elt [⟨tg, iter, ifs, 0⟩] scope pos) (some (.Name y py)) spos.line X.env = pure true) (hi : PID X W tg iter ti) (ok : BlkOk X.N X.env.scope scope own) (hv : i ∈ own.map (·.2))
    (hg : ∀ (s : Shared) (H : Hp) (C : Addr) (cl : List (Str × Addr)) (fp : List Addr), PG (X.blk s H scope (compEnvC scope cl C X.env) fp) tg (gName i))
    (ht : ∀ (s : Shared) (H : Hp) (C : Addr) (cl : List (Str × Addr)) (fp : List Addr), PTsD (X.blk s H scope (compEnvC scope cl C X.env) fp) W0 ifs tt)
    (he : ∀ (s : Shared) (H : Hp) (C : Addr) (cl : List (Str × Addr)) (fp : List Addr), PD (X.blk s H scope (compEnvC scope cl C X.env) fp) W0 elt te) (hs : ∀ x, foldedSetIterable iter X.env x = pure x := by intro _; rfl) :
    PSD X W (.Assign [.Name y py] (.ListComp elt [⟨tg, iter, ifs, 0⟩] scope pos) spos) (dAsg (dLc ti (fun d τ => τ.set i (some d)) tt te (own.map (·.2))) (dName j)) :=
  ⟨PSimp (ps_setLc hc hN hy hyl hsw hi.run ok hg (fun s H C cl fp => (ht s H C cl fp).run) (fun s H C cl fp => (he s H C cl fp).run) hs) fun De σ H ⟨τ, M, Dd, hs, hr, q, we, nc⟩ =>
    lc_read hv ⟨τ, M, _, _, hs, hr, q, fun x M' h => we x τ M' h, fun d M1 v H1 q1 e1 r1 h1 => nc.nx _ M1 _ H1 q1 e1 ((hs.mono e1).set r1) h1⟩⟩
end
end

/-! ### defs -/
/-- a promise over plain data -/
abbrev DSp := List D → Mp → DK → EK → Prop
def XC (K : PySem.W.Frag) (H : Hp) (Ed : EK) (E : XK) : Prop := ∀ x M' cls d H', Ed x M' → TExt K H H' → XR K H' cls d x → HR K H' M' → E cls d H'
def liftSp (K : PySem.W.Frag) (sp : DSp) : Sp := fun vs H Q E => ∃ ds M Qd Ed, sp ds M Qd Ed ∧ RpL K H vs ds ∧ HR K H M ∧ KC K H Qd Q ∧ XC K H Ed E
/-- the def that the module's name x holds -/
structure FnD (P : Program) (w : World) (K : PySem.W.Frag) (mg : Str → Option Value) (base : Heap) (k : Nat) (x : Str) (ps : List Str) (dds : List D) (sp : DSp) : Prop where
  ex : ∃ (f : Addr) (fd : FuncData) (dvs : List V) (ds : List Value), FnOk P w K mg base (L2.CX P w) k f fd ps (liftSp K sp) ∧ mg x = some (.ref f) ∧ PySem.W.keepIn K (.ref f) = true ∧ Binds K fd ps ds ∧ Vals dvs ds ∧ ∀ H, RpL K H dvs dds
theorem FnD.mono {P : Program} {w : World} {K : PySem.W.Frag} {mg : Str → Option Value} {base : Heap} {j k : Nat} {x : Str} {ps : List Str} {dds : List D} {sp : DSp} (F : FnD P w K mg base j x ps dds sp) (h : j ≤ k) : FnD P w K mg base k x ps dds sp := by
  obtain ⟨f, fd, dvs, ds, F, r⟩ := F.ex
  exact ⟨f, fd, dvs, ds, F.mono h, r⟩
theorem FnD.imp {P : Program} {w : World} {K : PySem.W.Frag} {mg : Str → Option Value} {base : Heap} {k : Nat} {x : Str} {ps : List Str} {dds : List D} {sp sp' : DSp} (F : FnD P w K mg base k x ps dds sp) (h : ∀ ds M Q E, sp' ds M Q E → sp ds M Q E) : FnD P w K mg base k x ps dds sp' := by
  obtain ⟨f, fd, dvs, ds, F, r⟩ := F.ex
  exact ⟨f, fd, dvs, ds, F.imp fun vs H Q E ⟨ds, M, Qd, Ed, q, r⟩ => ⟨ds, M, Qd, Ed, h _ _ _ _ q, r⟩, r⟩
def dCall (sp : DSp) (dds : List D) (t : DA) : DE := fun τ M Q E => t τ M (fun ds M1 => sp (ds ++ dds) M1 Q E) E
section
variable {X : Cx} {W : DW} {k : Nat} {x : Str} {ps : List Str} {dds : List D} {sp : DSp} {p pos apos : Pos} {e o : Expr} {es : List Expr} {t : DA} {to : DE}
theorem spIn {dvs : List V} {H1 : Hp} {σ : St} {τ : Sl} {M1 : Mp} {Qd : DK} {Ed : EK} {Q : VK} {vs : List V} {ds : List D} (hs : RS X.K W.h0 H1 σ τ) (q : sp ds M1 Qd Ed) (r : RpL X.K H1 vs ds) (hr : HR X.K H1 M1) (we : ∀ x M', Ed x M' → W.w x τ M') (k : KC X.K H1 Qd Q) :
    liftSp X.K sp vs H1 Q (WE (liftW X.K W) σ) :=
  ⟨ds, M1, Qd, Ed, q, r, hr, k, fun x M' cls d H' h e xr hr' => ⟨x, τ, M', hs.mono e, hr', xr, we x M' h⟩⟩
theorem pd_call (F : FnD X.prog X.w X.K X.mg X.base k x ps dds sp) (hr : Room k X.A) (tk : Takes X (liftW X.K W)) (hg : Gl X x) (ha : PAD X W (e :: es) t)
    (hdb : (x == ("__debug__" : Str)) = false := by decide) (he : starEach (e :: es) X.env = (false, eval e X.env) :: starEach es X.env := by rfl) (hpl : (backTo pos (starEach es X.env)).any (·.1) = false := by rfl) :
    PD X W (.Call (.Name x p) (e :: es) [] pos) (dCall sp dds t) := by
  obtain ⟨f, fd, dvs, ds0, F, hm, hk, hb, hd, hdd⟩ := F.ex
  exact ⟨PEimp (pe_callSD F hr hg hm hk hb hd (fun σ => passAt tk σ) ha.run hdb he hpl) fun σ H Q ⟨τ, M, Qd, Ed, hs, hr, q, we, k⟩ => ⟨τ, M, _, Ed, hs, hr, q, we, fun ds M1 vs H1 q1 e1 r1 h1 =>
    spIn (dvs := dvs) (hs.mono e1) q1 (r1.append (hdd H1)) h1 we (k.mono e1)⟩⟩
theorem pd_call0 (F : FnD X.prog X.w X.K X.mg X.base k x ps dds sp) (hr : Room k X.A) (tk : Takes X (liftW X.K W)) (hg : Gl X x) (hdb : (x == ("__debug__" : Str)) = false := by decide) : PD X W (.Call (.Name x p) [] [] pos) (dCall sp dds dNil) := by
  obtain ⟨f, fd, dvs, ds0, F, hm, hk, hb, hd, hdd⟩ := F.ex
  refine ⟨⟨fun pins s σ H Q I ⟨τ, M, Qd, Ed, hs, hr', q, we, k⟩ => ?_⟩⟩
  refine wpAny_Call_Name_kw (ld_glob I hg hm ?_ hdb)
  exact PySem.W.callWith_K0 I.kIn hk (run_fnSD (us := []) (vs := []) (E := WE (liftW X.K W)) F hr hb hd (passAt tk σ) I .nil (spIn (dvs := dvs) hs q (by simpa using hdd H) hr' we k))
end
end DL

set_option maxHeartbeats 4000000
namespace DL
open PySem L2
open PyProof.Rows (envOfC Subscript_)

/-! ### a def keeps its promise -/
def dstart (N : List Str) (ds : List D) : Sl := ds.map some ++ List.replicate (N.length - ds.length) none
/-- at a def's end what is no more asked is dropped -/
def dropQ (Q : DK) : DK := fun d M => ∃ M0, Sub M0 M ∧ Q d M0
def dropE (E : EK) : EK := fun x M => ∃ M0, Sub M0 M ∧ E x M0
theorem dropQ_of {Q : DK} {d : D} {M M' : Mp} (h : Q d M) (s : Sub M M') : dropQ Q d M' := ⟨M, s, h⟩
theorem dropE_of {E : EK} {d : DX} {M M' : Mp} (h : E d M) (s : Sub M M') : dropE E d M' := ⟨M, s, h⟩
/-- what a body is to reach -/
def ends (Q : DK) (E : EK) : DN := { nx := fun _ M => dropQ Q .non M, rt := dropQ Q, ex := fun x _ M => dropE E x M }
/-- what a def may let out: some promise's -/
def defW (K : PySem.W.Frag) (H : Hp) (E : XK) : DW := ⟨H, fun x _ M => ∀ H' cls d, TExt K H H' → XR K H' cls d x → HR K H' M → E cls d H'⟩
theorem rs_start {K : PySem.W.Frag} {H : Hp} {N : List Str} {vs : List V} {ds : List D} (r : RpL K H vs ds) : RS K H H (L2.start N vs) (dstart N ds) := ⟨.refl, by simp [L2.start, dstart, r.length], fun i d q => by
  unfold dstart at q
  unfold L2.start
  by_cases hi : i < ds.length
  · rw [List.getElem?_append_left (by simpa using hi), List.getElem?_map] at q
    rw [List.getElem?_append_left (by simpa [r.length] using hi), List.getElem?_map]
    cases e : ds[i]? with
    | none => rw [e] at q; cases q
    | some d' =>
      rw [e] at q
      cases q
      obtain ⟨v, ev, rv⟩ := r.get e
      exact ⟨v, by rw [ev]; rfl, rv⟩
  · rw [List.getElem?_append_right (by simpa using hi)] at q
    have : ∀ (n j : Nat), (List.replicate n (none : Option D))[j]? ≠ some (some d) := fun n j h => by
      have := List.mem_of_getElem? h
      simp at this
    exact absurd q (this _ _)⟩
section
variable {P : Program} {w : World} {K : PySem.W.Frag} {mg : Str → Option Value} {base : Heap}
/-- THE RULE for a def: its body as a term of rules, and that term's reading for every plain datum -/
theorem okD {x qual : Str} {st : Stmt} {f : Addr} {fd : FuncData} {N ps : List Str} {k : Nat} {sp : DSp} (F : L2.Fun K x qual st f fd) (S : FnScope N ps (defScope st)) (len : ∀ ds M Q E, sp ds M Q E → ds.length = ps.length)
    (hbody : ∀ (cdv : Value) (A : Around) (outer : List Env) (s : Shared) (H : Hp) (E : XK), Room k (A.deeper (envOfC qual (defScope st) s.heap.objs.size f cdv)) →
      Takes (cxOf (L2.CX P w) P w K mg base N qual (defScope st) f cdv A outer s H E) (liftW K (defW K H E)) →
      ∃ t, PSsD (cxOf (L2.CX P w) P w K mg base N qual (defScope st) f cdv A outer s H E) (defW K H E) (defBody st) t ∧ ∀ ds M Q E', sp ds M Q E' → t (ends Q E') (dstart N ds) M) :
    FnOk P w K mg base (L2.CX P w) (k + 1) f fd ps (liftSp K sp) := by
  refine F.okX S (fun vs H Q E ⟨ds, M, Qd, Ed, hsp, r, _⟩ => r.length.trans (len ds M Qd Ed hsp)) fun cdv A outer s H vs Q E hr ⟨ds, M, Qd, Ed, hsp, r, hr', kc, xc⟩ => ?_
  obtain ⟨t, ht, q⟩ := hbody cdv A outer s H E hr (Takes.imp (takes_of rfl rfl rfl rfl) fun c d σ H' ⟨x, τ, M', rs, h2, xr, hw⟩ => hw H' c d rs.ext xr h2)
  refine ⟨_, ht.run, dstart N ds, M, ends Qd Ed, rs_start r, hr', q ds M Qd Ed hsp, fun x τ M' ⟨M0, sb, h⟩ H' cls d e xr h2 => xc x M0 cls d H' h e xr (h2.sub sb), ?_⟩
  exact ⟨fun τ M' σ H' ⟨M0, sb, h⟩ e _ h2 => kc _ M0 _ H' h e .non (h2.sub sb), fun d M' v H' ⟨M0, sb, h⟩ e rv h2 => kc d M0 v H' h e rv (h2.sub sb), fun _ _ _ _ z => z.elim, fun _ _ _ _ z => z.elim⟩
theorem fnd_mk {x qual : Str} {st : Stmt} {f : Addr} {fd : FuncData} {ps : List Str} {k : Nat} {sp : DSp} (F : L2.Fun K x qual st f fd) (m : mg x = some (.ref f)) (b : Binds K fd ps []) (h : FnOk P w K mg base (L2.CX P w) k f fd ps (liftSp K sp)) : FnD P w K mg base k x ps [] sp :=
  ⟨f, fd, [], [], h, m, F.kp, b, .nil, fun _ => .nil⟩
/-- the method m of the class at C -/
structure MetD (P : Program) (w : World) (K : PySem.W.Frag) (mg : Str → Option Value) (base : Heap) (k : Nat) (C : Addr) (m : Str) (ps : List Str) (dds : List D) (sp : DSp) : Prop where
  ex : ∃ (f : Addr) (fd : FuncData) (dvs : List V) (ds : List Value), Cls K C ∧ Meth K C m f ∧ FnOk P w K mg base (L2.CX P w) k f fd ps (liftSp K sp) ∧ Binds K fd ps ds ∧ Vals dvs ds ∧ ∀ H, RpL K H dvs dds
/-- the class x at C, made -/
structure MakD (P : Program) (w : World) (K : PySem.W.Frag) (mg : Str → Option Value) (base : Heap) (k : Nat) (x : Str) (C : Addr) (ps : List Str) (dds : List D) (sp : DSp) : Prop where
  ex : ∃ (f : Addr) (fd : FuncData) (dvs : List V) (ds : List Value), Mk K C f ∧ mg x = some (.ref C) ∧ FnOk P w K mg base (L2.CX P w) k f fd ps (liftSp K sp) ∧ Binds K fd ps ds ∧ Vals dvs ds ∧ ∀ H, RpL K H dvs dds
end
def dMeth (C : Addr) (m : Str) (sp : DSp) (dds : List D) (to : DE) (t : DA) : DE := fun τ M Q E => to τ M (fun o M1 => match o with
  | .ref a => match M1 a with
    | some (.ins C' fs) => C' = C ∧ fs.lookup m = none ∧ t τ M1 (fun ds M2 => sp (.ref a :: (ds ++ dds)) M2 Q E) E
    | _ => False
  | _ => False) E
def dMake (C : Addr) (sp : DSp) (dds : List D) (t : DA) : DE := fun τ M Q E => t τ M (fun ds M1 => ∀ x, M1 x = none → sp (.ref x :: (ds ++ dds)) (put M1 x (.ins C [])) (fun d M2 => d = .non ∧ Q (.ref x) M2) E) E
/-- o[i] by an own __getitem__ -/
def dIxO (C : Addr) (sp : DSp) (to ti : DE) : DE := fun τ M Q E => to τ M (fun o M1 => ti τ M1 (fun i M2 => match o with
  | .ref a => match M2 a with
    | some (.ins C' _) => C' = C ∧ sp [.ref a, i] M2 Q E
    | _ => False
  | _ => False) E) E
section
variable {X : Cx} {W : DW} {k : Nat} {C : Addr} {x m : Str} {ps : List Str} {dds : List D} {sp : DSp} {p pos apos : Pos} {e o : Expr} {es : List Expr} {t : DA} {to ti : DE}
theorem methS {f : Addr} {fd : FuncData} {dvs : List V} {ds0 : List Value} {pl : Sem Bool} {args : List Expr} {ta : TA} {E : St → XK} {to' : TE} {sp' : Sp} (hT : PE X o to') (cl : Cls X.K C) (hm : Meth X.K C m f) (F : FnOk X.prog X.w X.K X.mg X.base (L2.CX X.prog X.w) k f fd ps sp') (hr : Room k X.A)
    (hb : Binds X.K fd ps ds0) (hd : Vals dvs ds0) (hx : ∀ σ, PassesAt (L2.CX X.prog X.w) X σ (E σ))
    (run : ∀ {pins : List (Addr × Obj)} {s : Shared} {σ : St} {H : Hp} {a : Addr} {Q : VK}, Inv X pins σ H s → ta σ H (fun vs H2 => sp' (.ref a :: (vs ++ dvs)) H2 Q (E σ)) →
      wpAny (model X.prog X.w) X.A (callWith pos (.ref f) [.ref a] (backTo pos (starEach args X.env)) (backToKw pos (keywordEach [] X.env))) (EP X pins σ Q) X.xe s)
    (ht : eval (.Call (.Attribute o m apos) args [] pos) X.env = (do
      let ov ← eval o X.env
      standAt apos.atName
      let (f, first) ← holding [ov] (getMethod ov m pl)
      callWith pos f first (backTo pos (starEach args X.env)) (backToKw pos (keywordEach [] X.env)))) :
    PE X (.Call (.Attribute o m apos) args [] pos) (fun σ H Q => to' σ H fun v H1 => ∃ a dx fs, v = .ref a ∧ H1 a = some (.ins C dx fs) ∧ fs.lookup m = none ∧ ta σ H1 fun vs H2 => sp' (.ref a :: (vs ++ dvs)) H2 Q (E σ)) :=
  ⟨fun pins s σ H Q I h => PySem.W.methodCall_KW (pl := pl) (thn (hT.run pins s σ H _ I h) fun u s1 ⟨v, H1, I1, rv, a, dx, fs, ev, ea, l, q⟩ => by
    subst ev
    cases (show u = Value.ref a from rv)
    exact getmeth_ok I1 ea cl hm l (run I1 q)) ht⟩
theorem pd_meth {pl : Sem Bool} (F : MetD X.prog X.w X.K X.mg X.base k C m ps dds sp) (hr : Room k X.A) (tk : Takes X (liftW X.K W)) (ho : PD X W o to) (ha : PAD X W (e :: es) t)
    (hst : starEach (e :: es) X.env = (false, eval e X.env) :: starEach es X.env := by rfl) (hpl : (backTo pos (starEach es X.env)).any (·.1) = false := by rfl)
    (ht : eval (.Call (.Attribute o m apos) (e :: es) [] pos) X.env = (do
      let ov ← eval o X.env
      standAt apos.atName
      let (f, first) ← holding [ov] (getMethod ov m pl)
      callWith pos f first (backTo pos (starEach (e :: es) X.env)) (backToKw pos (keywordEach [] X.env))) := by rfl) : PD X W (.Call (.Attribute o m apos) (e :: es) [] pos) (dMeth C m sp dds to t) := by
  obtain ⟨f, fd, dvs, ds0, cl, hm, F, hb, hd, hdd⟩ := F.ex
  refine ⟨PEimp (methS (E := WE (liftW X.K W)) (ta := liftA X.K W t) ho.run cl hm F hr hb hd (fun σ => passAt tk σ) (fun {pins s σ H a Q} I h => ?_) ht) fun σ H Q ⟨τ, M, Qd, Ed, hs, hr, q, we, k⟩ => ⟨τ, M, _, Ed, hs, hr, q, we, fun d M1 v H1 q1 e1 r1 h1 => ?_⟩⟩
  · refine PySem.W.callWith_K (first := [.ref a]) (h₀ := X.base) I.ok.mod.kin hm.kp (thn (ha.run.run pos pins s σ H _ I h) fun us s2 ⟨vs, H2, I2, r, q2⟩ => ⟨I2.kIn, ?_⟩) hst hpl
    exact run_fnSD (us := .ref a :: us) (vs := .ref a :: vs) F hr hb hd (passAt tk σ) I2 (.cons rfl r) q2
  · dsimp only at q1
    split at q1
    · rename_i a
      split at q1
      · rename_i C' fs ea
        obtain ⟨rfl, hl, q1⟩ := q1
        obtain ⟨dx, vs, hv, fdd⟩ := h1.ins ea
        refine ⟨a, dx, vs, r1.toRef, hv, fdd.look_none hl, τ, M1, _, Ed, hs.mono e1, h1, q1, we, fun ds M2 us H2 q2 e2 r2 h2 => ?_⟩
        exact spIn (dvs := dvs) (hs.mono (e1.trans e2)) q2 (.cons (.ref a) (r2.append (hdd H2))) h2 we (k.mono (e1.trans e2))
      · exact q1.elim
    · exact q1.elim
theorem pd_meth0 {pl : Sem Bool} (F : MetD X.prog X.w X.K X.mg X.base k C m ps dds sp) (hr : Room k X.A) (tk : Takes X (liftW X.K W)) (ho : PD X W o to)
    (ht : eval (.Call (.Attribute o m apos) [] [] pos) X.env = (do
      let ov ← eval o X.env
      standAt apos.atName
      let (f, first) ← holding [ov] (getMethod ov m pl)
      callWith pos f first (backTo pos (starEach [] X.env)) (backToKw pos (keywordEach [] X.env))) := by rfl) : PD X W (.Call (.Attribute o m apos) [] [] pos) (dMeth C m sp dds to dNil) := by
  obtain ⟨f, fd, dvs, ds0, cl, hm, F, hb, hd, hdd⟩ := F.ex
  refine ⟨PEimp (methS (E := WE (liftW X.K W)) (ta := tNil) ho.run cl hm F hr hb hd (fun σ => passAt tk σ) (fun {pins s σ H a Q} I h => ?_) ht) fun σ H Q ⟨τ, M, Qd, Ed, hs, hr, q, we, k⟩ => ⟨τ, M, _, Ed, hs, hr, q, we, fun d M1 v H1 q1 e1 r1 h1 => ?_⟩⟩
  · exact PySem.W.callWith_K0 (first := [.ref a]) I.kIn hm.kp (run_fnSD (us := [.ref a]) (vs := [.ref a]) F hr hb hd (passAt tk σ) I (.cons rfl .nil) h)
  · dsimp only at q1
    split at q1
    · rename_i a
      split at q1
      · rename_i C' fs ea
        obtain ⟨rfl, hl, q1⟩ := q1
        obtain ⟨dx, vs, hv, fdd⟩ := h1.ins ea
        exact ⟨a, dx, vs, r1.toRef, hv, fdd.look_none hl, spIn (dvs := dvs) (hs.mono e1) q1 (.cons (.ref a) (by simpa using hdd H1)) h1 we (k.mono e1)⟩
      · exact q1.elim
    · exact q1.elim
/-- a new instance and its __init__, what is raised wished for at the slots -/
theorem makeS {f : Addr} {fd : FuncData} {dvs : List V} {ds0 : List Value} {pins : List (Addr × Obj)} {σ : St} {H : Hp} {s : Shared} {Q : VK} {us : List Value} {vs : List V} {E : XK} {sp' : Sp} (M : Mk X.K C f) (F : FnOk X.prog X.w X.K X.mg X.base (L2.CX X.prog X.w) k f fd ps sp') (hr : Room (k + 1) X.A)
    (hb : Binds X.K fd ps ds0) (hd : Vals dvs ds0) (hx : PassesAt (L2.CX X.prog X.w) X σ E) (I : Inv X pins σ H s) (r : Vals vs us)
    (h : ∀ x dx, H x = none → H dx = none → dx ≠ x → sp' (.ref x :: (vs ++ dvs)) (upd (upd H dx (.own x)) x (.ins C dx [])) (fun v H2 => v = .non ∧ Q (.ref x) H2) E) :
    wpAny (model X.prog X.w) X.A (call (.ref C) us) (EP X pins σ Q) X.xe s := by
  have n0 : s.heap.objs.size ≠ s.heap.objs.size + 1 := by omega
  have hq := h (s.heap.objs.size + 1) s.heap.objs.size (I.hok.fresh (by omega)) (I.hok.fresh (Nat.le_refl _)) n0
  have J := Inv.made (C := C) I
  have r2 : Vals (V.ref (s.heap.objs.size + 1) :: (vs ++ dvs)) (Value.ref (s.heap.objs.size + 1) :: (us ++ ds0)) := .cons rfl (r.append hd)
  have hl : (Value.ref (s.heap.objs.size + 1) :: us ++ ds0).length = ps.length := (F.len _ _ _ _ hq ▸ r2.length).symm
  refine wpAny_call (make_map (f := f) I.kIn M.makes M.init (beq_iff_eq.mp M.fn) (codeAny_mono (F.run _ X.stack _ _ ⟨Value.ref (s.heap.objs.size + 1) :: us, []⟩ _ _ _ E (hr.make C us []) (J.env0.make C us [])
    (hb _ (Value.ref (s.heap.objs.size + 1) :: us) J.kIn hl) r2 hq) fun res s' hq' => ?_))
  cases res with
  | error e => exact hx pins _ _ e s' J hq'
  | ok fl =>
    cases fl with
    | ret u =>
      obtain ⟨v, H', J2, rv, ev, q3⟩ := J.after hq'
      subst ev
      exact ⟨rv, ⟨V.ref (s.heap.objs.size + 1), H', J2, rfl, q3⟩⟩
    | _ => exact False.elim hq'
theorem HR.newIns {K : PySem.W.Frag} {H : Hp} {M : Mp} {x dx : Addr} (hr : HR K H M) (hx : H x = .none) (hd : H dx = .none) (n : dx ≠ x) : HR K (upd (upd H dx (.own x)) x (.ins C dx [])) (put M x (.ins C [])) :=
  (hr.fresh hd).made (noTup_none (by rw [upd_ne (Ne.symm n)]; exact hx)) ⟨dx, [], upd_same, trivial⟩
theorem TExt.newIns {K : PySem.W.Frag} {H : Hp} {x dx : Addr} (hx : H x = .none) (hd : H dx = .none) (n : dx ≠ x) : TExt K H (L2.upd (L2.upd H dx (.own x)) x (.ins C dx [])) :=
  (TExt.new hd).trans (TExt.new ((upd_ne (Ne.symm n)).trans hx))
theorem pd_make (F : MakD X.prog X.w X.K X.mg X.base k x C ps dds sp) (hr : Room (k + 1) X.A) (tk : Takes X (liftW X.K W)) (hg : Gl X x) (ha : PAD X W (e :: es) t)
    (hdb : (x == ("__debug__" : Str)) = false := by decide) (he : starEach (e :: es) X.env = (false, eval e X.env) :: starEach es X.env := by rfl) (hpl : (backTo pos (starEach es X.env)).any (·.1) = false := by rfl) :
    PD X W (.Call (.Name x p) (e :: es) [] pos) (dMake C sp dds t) := by
  obtain ⟨f, fd, dvs, ds0, M, hm, F, hb, hd, hdd⟩ := F.ex
  refine ⟨⟨fun pins s σ H Q I ⟨τ, Mm, Qd, Ed, hs, hr', q, we, k⟩ => wpAny_Call_Name_kw (ld_glob I hg hm ?_ hdb)⟩⟩
  refine PySem.W.callWith_K (h₀ := X.base) I.ok.mod.kin M.kp (thn (ha.run.run pos pins s σ H (fun vs H1 => ∀ a dx, H1 a = none → H1 dx = none → dx ≠ a → liftSp X.K sp (.ref a :: (vs ++ dvs)) (upd (upd H1 dx (.own a)) a (.ins C dx [])) (fun v H2 => v = .non ∧ Q (.ref a) H2) (WE (liftW X.K W) σ)) I
    ⟨τ, Mm, _, Ed, hs, hr', q, we, fun ds M1 vs H1 q1 e1 r1 h1 a dx ha hdx n => ?_⟩) fun us s1 ⟨vs, H1, I1, r, q1⟩ => ⟨I1.kIn, makeS M F hr hb hd (passAt tk σ) I1 r q1⟩) he hpl
  have e2 : TExt X.K H1 (upd (upd H1 dx (.own a)) a (.ins C dx [])) := .newIns ha hdx n
  exact spIn (dvs := dvs) (Qd := fun d M2 => d = .non ∧ Qd (.ref a) M2) (hs.mono (e1.trans e2)) (q1 a (h1.free ha)) (.cons (.ref a) ((r1.mono e2).append (hdd _))) (h1.newIns ha hdx n) we
    fun d M' v H' ⟨ed, h⟩ e' rv h' => ⟨by subst ed; exact rv.toNon, k _ M' _ H' h (e1.trans (e2.trans e')) (.ref a) h'⟩
/-- in a call's inner room -/
theorem run1 {f : Addr} {fd : FuncData} {pins : List (Addr × Obj)} {σ : St} {H : Hp} {s : Shared} {Q : VK} {us : List Value} {vs : List V} {E : XK} {sp' : Sp} (F : FnOk X.prog X.w X.K X.mg X.base (L2.CX X.prog X.w) k f fd ps sp') (hr : Room (k + 1) X.A) (hb : Binds X.K fd ps []) (hx : PassesAt (L2.CX X.prog X.w) X σ E)
    (I : Inv X pins σ H s) (r : Vals vs us) (h : sp' vs H Q E) : wpAny (model X.prog X.w) X.A.in1 (call (.ref f) us) (EP X pins σ Q) X.xe s := by
  have hl : (us ++ []).length = ps.length := by rw [List.append_nil, ← r.length]; exact F.len _ _ _ _ h
  have hb' := hb s us I.kIn hl
  rw [List.append_nil] at hb'
  refine wpAny_call (codeAny_mono (F.run X.A.in1 X.stack s H ⟨us, []⟩ us vs Q E hr.in1 I.env0.in1 hb' r h) fun res s' hq => ?_)
  cases res with
  | error e => exact hx pins H s e s' I hq
  | ok fl =>
    cases fl with
    | ret u => exact I.after hq
    | _ => exact False.elim hq
theorem pd_ixO {a b : Expr} (F : MetD X.prog X.w X.K X.mg X.base k C "__getitem__" ps [] sp) (hfn : ∀ f, PySem.W.findIn X.K (.ref C) "__getitem__" = some (some (.ref f)) → PySem.W.fnIn X.K f = true) (hr : Room (k + 1) X.A) (tk : Takes X (liftW X.K W)) (ho : PD X W a to) (hi : PD X W b ti)
    (hsl : ∀ x i, subscripted b true (.ref x) i = runValue (.builtin "lifetime.subscript" ⟨[.ref x, i], []⟩) := by intro _ _; with_unfolding_all rfl) : PD X W (.Subscript a b pos) (dIxO C sp to ti) := by
  obtain ⟨f, fd, dvs, ds0, cl, hm, F, hb, hd, hdd⟩ := F.ex
  have e0 : dvs = [] := (hdd H0n).nil_of
  subst e0
  have e1 : ds0 = [] := by cases hd; rfl
  subst e1
  refine ⟨⟨fun pins s σ H Q I ⟨τ, M, Qd, Ed, hs, hr', q, we, k⟩ => Subscript_ (binT (R := fun x y H2 => ∃ a dx fs, x = .ref a ∧ H2 a = some (.ins C dx fs) ∧ liftSp X.K sp [.ref a, y] H2 Q (WE (liftW X.K W) σ)) ho.run hi.run I
    ⟨τ, M, _, Ed, hs, hr', q, we, fun od M1 ov H1 q1 e1 r1 h1 => ⟨τ, M1, _, Ed, hs.mono e1, h1, q1, we, fun y M2 yv H2 q2 e2 r2 h2 => ?_⟩⟩ fun v u s2 x y H2 I2 rx ry ⟨a, dx, fs, ex, ea, q2⟩ => ?_)⟩⟩
  · dsimp only at q2
    split at q2
    · rename_i a
      split at q2
      · rename_i C' fs ea
        obtain ⟨rfl, q2⟩ := q2
        obtain ⟨dx, vs, hv, _⟩ := h2.ins ea
        exact ⟨a, dx, vs, (r1.mono e2).toRef, hv, spIn (dvs := []) (hs.mono (e1.trans e2)) q2 (.cons (.ref a) (.cons r2 .nil)) h2 we (k.mono (e1.trans e2))⟩
      · exact q2.elim
    · exact q2.elim
  · subst ex
    cases (show v = Value.ref a from rx)
    obtain ⟨m, Fr⟩ := I2.fr
    obtain ⟨mA, O, _⟩ := ins_get I2.hok ea
    obtain ⟨od, J, _⟩ := O.look
    exact PySem.W.sub_K Fr I2.ok.mod.kin J hm.at_ (hfn f hm.at_) hm.fn (run1 F hr hb (passAt tk σ) I2 (.cons (show RelV (.ref a) (.ref a) from rfl) (.cons ry .nil)) q2) (hsl a u)
end
end DL

set_option maxHeartbeats 4000000
namespace DL
open PySem L2
section
variable {X : Cx} {W : DW} {pos p p2 np pos' : Pos}
/-- what the written part says of an exception class of the program, without its own __init__ -/
structure ExcK (K : PySem.W.Frag) (mg : Str → Option Value) (x : Str) (C : Addr) : Prop where
  q : PySem.W.excIn K C [.type "ValueError", .type "Exception", .type "BaseException", .type "object"] "ValueError.__new__" = true
  m : mg x = some (.ref C)
  k : PySem.W.keepIn K (.ref C) = true
  s : PySem.W.subIn K (.ref C) (.type "BaseException") = some true
  t : PySem.W.typeIn K (.ref C) = some (.type "type")
def dRaise (C : Addr) : DS := fun Dn τ M => Dn.ex ⟨.ref C, none, []⟩ τ M
theorem psd_raise {x m : Str} {C : Addr} {j : Nat} (E : ExcK X.K X.mg x C) (hc : X.calm = true) (tk : Takes X (liftW X.K W)) (hg : Gl X x) (hdb : (x == ("__debug__" : Str)) = false := by decide) :
    PSD X W (.Raise (some (.Call (.Name x p) [.Constant (.str m) j p2] [] pos')) none pos) (dRaise C) :=
  ⟨PSimp (ps_raise hc tk (pmk_own PySem.F.excBase_ValueError E.q E.m E.k (raises_own E.s E.t) hg hdb)) fun De σ H ⟨τ, M, Dd, hs, hr, q, we, nc⟩ =>
    ⟨⟨.ref C, none, []⟩, τ, M, hs, hr, ⟨rfl, rfl, fun dx e => by cases e⟩, we _ τ M q⟩⟩
theorem RS.setN {K : PySem.W.Frag} {H0 H : Hp} {σ : St} {τ : Sl} (h : RS K H0 H σ τ) (i : Nat) : RS K H0 H (σ.set i none) (τ.set i none) := ⟨h.ext, by simpa using h.len, fun j e q => by
  by_cases c : i = j
  · subst c
    by_cases hi : i < τ.length
    · rw [List.getElem?_set_self hi] at q; cases q
    · rw [List.getElem?_eq_none (by simpa using hi)] at q; cases q
  · rw [List.getElem?_set_ne c] at q ⊢
    exact h.at_ j e q⟩
/-- the exception's own attributes beside the rest -/
def caught (x : DX) (M : Mp) : Mp := match x.d with
  | some dx => put M dx (.xd x.fs)
  | none => M
theorem caught_ok {K : PySem.W.Frag} {H : Hp} {M : Mp} {cls : Value} {d : Option Addr} {x : DX} (h : HR K H M) (xr : XR K H cls d x) : HR K H (caught x M) := by
  unfold caught
  obtain ⟨_, e, r⟩ := xr
  cases hd : x.d with
  | none => exact h
  | some dx =>
    intro a o q
    by_cases c : a = dx
    · subst c
      have q' : put M a (.xd x.fs) a = some o := q
      rw [put_same] at q'
      cases q'
      exact r a (by rw [e, hd])
    · have q' : put M dx (.xd x.fs) a = some o := q
      rw [put_ne c] at q'
      exact h a o q'
/-- what an exception of the body meets; c the class that is named, i the name's slot -/
def hAs (K : PySem.W.Frag) (c : Value) (i : Nat) (ts : DX → Addr → DS) (Dn : DN) : DX → Sl → Mp → Prop := fun x τ M =>
  ∃ b, PySem.W.exmOne K x.cls c = some b ∧ (b = true → ∀ a, M a = none → ts x a { nx := fun τ' M' => Dn.nx (τ'.set i none) M', rt := Dn.rt, bk := fun τ' M' => Dn.bk (τ'.set i none) M', ct := fun τ' M' => Dn.ct (τ'.set i none) M' } (τ.set i (some (.ref a))) (caught x M)) ∧
    (b = false → Dn.ex x τ M)
def dTryAs (K : PySem.W.Frag) (c : Value) (i : Nat) (t : DS) (ts : DX → Addr → DS) : DS := fun Dn τ M => t { Dn with ex := hAs K c i ts Dn } τ M
def Wn (H0 : Hp) : DW := ⟨H0, fun _ _ _ => False⟩
theorem RS.base {K : PySem.W.Frag} {H0 H1 H : Hp} {σ : St} {τ : Sl} (h : RS K H1 H σ τ) (e : TExt K H0 H) : RS K H0 H σ τ := ⟨e, h.len, h.at_⟩
theorem NC.base {K : PySem.W.Frag} {H0 H : Hp} {Dd : DN} {De : Ends} (h : NC K H0 H Dd De) (e : TExt K H0 H) : NC K H H Dd De :=
  ⟨fun τ M σ H' q x rs hr => h.nx τ M σ H' q x (rs.base (e.trans x)) hr, h.rt, fun τ M σ H' q x rs hr => h.bk τ M σ H' q x (rs.base (e.trans x)) hr, fun τ M σ H' q x rs hr => h.ct τ M σ H' q x (rs.base (e.trans x)) hr⟩
theorem psd_try_as {x n : Str} {c : Value} {i : Nat} {body suite : List Stmt} {b₀ : Stmt} {t : DS} {ts : DX → Addr → DS} (hs : X.stack = X.env :: X.outer) (hf : X.env.frame = some X.env.locals) (hN : X.N.Nodup) (hi : X.N[i]? = some n) (hln : X.env.kindOf n = some .local) (hc : Names X x c) (tk : Takes X (liftW X.K W))
    (hb : ∀ (W' : DW) (pn : List (Addr × Obj)) (xe : Value → Shared → Prop), Takes (X.tr pn xe) (liftW X.K W') → PassesOwn (model X.prog X.w) X.A X.env xe → PSsD (X.tr pn xe) W' body t)
    (hsu : ∀ (y : DX) (a : Addr) (oe : Obj) (pn : List (Addr × Obj)), Zc y.cls y.d oe → (∃ vs, oe.data = .fields vs) → PSsD (X.suite a ((a, oe) :: pn)) (Wn W.h0) (b₀ :: suite) (ts y a)) :
    PSD X W (.Try body [.ExceptHandler (some (.Name x np)) (some n) (b₀ :: suite) pos'] [] [] pos) (dTryAs X.K c i t ts) := by
  refine ⟨PSimp (ps_try_as (tb := fun Wx De σ H => ∃ W' : DW, (∀ cls d σ H, liftW X.K W' cls d σ H → Wx cls d σ H) ∧ liftS X.K W' t De σ H) (ts := fun a cls d De σ H => ∃ y, cls = y.cls ∧ d = y.d ∧ liftS X.K (Wn W.h0) (ts y a) De σ H)
    (Wout := liftW X.K W) hs hf hN hi hln hc tk (fun Wx pn xe htk hpo => ⟨fun pins s σ H De I ⟨W', hw, h⟩ => (hb W' pn xe (htk.imp hw) hpo).run.run pins s σ H De I h⟩) (fun a oe cls d pn hz hd => ⟨fun pins s σ H De I ⟨y, e1, e2, h⟩ => ?_⟩)) fun De σ H ⟨τ, M, Dd, hs, hr, q, we, nc⟩ => ?_⟩
  · subst e1; subst e2
    exact (hsu y a oe pn hz hd).run.run pins s σ H De I h
  · refine ⟨⟨H, fun y τ' M' => hAs X.K c i ts Dd y τ' M'⟩, ?_, τ, M, { Dd with ex := hAs X.K c i ts Dd }, hs.base .refl, hr, q, fun y τ' M' h => h, (nc.base hs.ext).nx, (nc.base hs.ext).rt, (nc.base hs.ext).bk, (nc.base hs.ext).ct⟩
    rintro cls d σ' H' ⟨y, τ', M', hs', hr', xr, b, hb1, hy, hn⟩
    refine ⟨b, by rw [xr.1]; exact hb1, fun eb a ha => ⟨y, xr.1, xr.2.1, τ'.set i (some (.ref a)), caught y M', _, (hs'.base (hs.ext.trans hs'.ext)).set (.ref a), caught_ok hr' xr, hy eb a (hr'.free ha), fun _ _ _ z => z.elim, ?_⟩, fun eb => ⟨y, τ', M', hs'.base (hs.ext.trans hs'.ext), hr', xr, we y τ' M' (hn eb)⟩⟩
    exact ⟨fun τ2 M2 σ2 H2 q2 e2 rs2 hr2 => nc.nx _ M2 _ H2 q2 (hs'.ext.trans e2) (rs2.setN i) hr2, fun d2 M2 v H2 q2 e2 => nc.rt d2 M2 v H2 q2 (hs'.ext.trans e2), fun τ2 M2 σ2 H2 q2 e2 rs2 hr2 => nc.bk _ M2 _ H2 q2 (hs'.ext.trans e2) (rs2.setN i) hr2, fun τ2 M2 σ2 H2 q2 e2 rs2 hr2 => nc.ct _ M2 _ H2 q2 (hs'.ext.trans e2) (rs2.setN i) hr2⟩
/-- isinstance(e, C) of the exception that the suite holds -/
def isxG (K : PySem.W.Frag) (y : DX) (a : Addr) : DG := fun ds M Q => match ds with
  | [.ref a', c] => a' = a ∧ y.d = none ∧ ∃ D b cv, y.cls = .ref D ∧ ExcC K D ∧ ((∃ C, c = .ref C ∧ cv = .ref C) ∨ ∃ n, c = .ty n ∧ cv = .type n) ∧ PySem.W.kitOne K (.ref D) cv = some b ∧ Q (.bl b) M
  | _ => False
theorem call_isxG {y : DX} {a : Addr} {oe : Obj} {pn : List (Addr × Obj)} (hz : Zc y.cls y.d oe) (hf : ∃ vs, oe.data = .fields vs) : CallR (X.suite a ((a, oe) :: pn)) (.builtin "isinstance") (liftC X.K (isxG X.K y a)) := by
  intro pins s σ H xs us Q I rs ⟨ds, M, Qd, q, r, hr, k⟩
  unfold isxG at q
  split at q
  · rename_i a' c
    obtain ⟨rfl, hd, D, b, cv, ec, C, hc, kk, q⟩ := q
    obtain ⟨v, v', rfl, rv, rv'⟩ := r.two
    obtain ⟨u1, u2, rfl, r1, r2⟩ := vals2 rs
    rw [rv.toRef] at r1
    cases (show u1 = Value.ref a' from r1)
    have e2 : u2 = cv := by
      rcases hc with ⟨C', rfl, rfl⟩ | ⟨n, rfl, rfl⟩
      · rw [rv'.toRef] at r2; exact r2
      · rw [rv'.toTy] at r2; exact r2
    subst e2
    obtain ⟨hget, _⟩ := I.pin (a', oe) (List.mem_append.mpr (.inl List.mem_cons_self))
    obtain ⟨vs, hv⟩ := hf
    have J : PySem.W.InstAt s.heap a' oe D none := ⟨hget, by rw [hz.1]; exact ec, by unfold PySem.W.notCls; rw [hv] <;> rfl, by rw [hz.2, hd]; trivial⟩
    exact PySem.W.kia_one (PySem.W.handS_kitx_exc C.hg C.hk C.hs C.hd C.ha C.hn C.ht C.hm) I.kIn J kk (fun z => nomatch z) fun tk => ⟨.bl b, H, I.kept (t' := tk) fun _ _ z => z, rfl, k _ M _ H q .refl (.bl _) hr⟩
  · exact q.elim
end
end DL

set_option maxHeartbeats 4000000
namespace PySem
namespace DLmul
open PySem.SeqAt
open PySem.AutoSeq1 (wpAny_loadPart')
open PySem.MeetsSeq PySem.MeetsSeq2 PySem.MeetsSeq3 PySem.SeqRoads2
/-- once, or an empty one: the tuple itself -/
theorem mul_self (l : Addr) (items : Array Value) (n : Nat) (dd : Option Addr) (sl : Array (Option Value)) (x : Int) (u : Tok) (c0 : (decide (x < -(2 ^ 63)) || decide (x ≥ 2 ^ 63)) = false) (c1 : (items.isEmpty || x == 1) = true) :
    Meets (Builtin.«tuple.__mul__» ⟨[.ref l, .int x u], []⟩) (fun _ R s => s.heap.get? l = some { cls := .type "tuple", dict := dd, data := .seq items n, slots := sl } ∧ R (.ok (.ret (.ref l))) s) :=
  .of_wp fun prog w A R s h => by
    obtain ⟨hp, g, d, tk, os⟩ := s
    obtain ⟨hl, h⟩ := h
    have f1 := AutoSeq1.idx_int
    wp_walk using wpAny_loadPart' hl
    repeat (first
      | (refine wpAny_ite_false (decide_eq_false (by rw [c0]; exact Bool.false_ne_true)) ?_; wp_walk using wpAny_loadPart' hl)
      | (refine wpAny_ite_true (decide_eq_true c1) ?_; wp_walk using wpAny_loadPart' hl))
    exact ⟨_, rfl, h⟩
theorem mul_zero (l : Addr) (items : Array Value) (n : Nat) (dd : Option Addr) (sl : Array (Option Value)) (x : Int) (u : Tok) (c0 : (decide (x < -(2 ^ 63)) || decide (x ≥ 2 ^ 63)) = false) (c1 : (items.isEmpty || x == 1) = false) (c2 : (decide (x ≤ 0) || items.isEmpty) = true) :
    Meets (Builtin.«tuple.__mul__» ⟨[.ref l, .int x u], []⟩) (fun _ R s => s.heap.get? l = some { cls := .type "tuple", dict := dd, data := .seq items n, slots := sl } ∧ R (.ok (.ret (.ref s.heap.objs.size))) { s with heap := s.heap.push { cls := .type "tuple", data := .seq #[] } }) :=
  .of_wp fun prog w A R s h => by
    obtain ⟨hp, g, d, tk, os⟩ := s
    obtain ⟨hl, h⟩ := h
    have f1 := AutoSeq1.idx_int
    wp_walk using wpAny_loadPart' hl
    repeat (first
      | (refine wpAny_ite_false (decide_eq_false (by rw [c0]; exact Bool.false_ne_true)) ?_; wp_walk using wpAny_loadPart' hl)
      | (refine wpAny_ite_false (decide_eq_false (by rw [c1]; exact Bool.false_ne_true)) ?_; wp_walk using wpAny_loadPart' hl)
      | (refine wpAny_ite_true (decide_eq_true c2) ?_; wp_walk using wpAny_loadPart' hl))
    exact ⟨_, rfl, h⟩
end DLmul
end PySem

namespace DL
open PySem L2
theorem bt_tuple : bootBuiltins "tuple" = some (.type "tuple") := by decide +kernel
theorem bt_list : bootBuiltins "list" = some (.type "list") := by decide +kernel
theorem bt_int : bootBuiltins "int" = some (.type "int") := by decide +kernel
theorem bt_str : bootBuiltins "str" = some (.type "str") := by decide +kernel
theorem bt_bool : bootBuiltins "bool" = some (.type "bool") := by decide +kernel
theorem bt_dict : bootBuiltins "dict" = some (.type "dict") := by decide +kernel
theorem bt_ValueError : bootBuiltins "ValueError" = some (.type "ValueError") := by decide +kernel
theorem bt_len : bootBuiltins "len" = some (.builtin "len") := by decide +kernel
theorem bt_isinstance : bootBuiltins "isinstance" = some (.builtin "isinstance") := by decide +kernel
theorem bt_all : bootBuiltins "all" = some (.builtin "all") := by decide +kernel
theorem bt_any : bootBuiltins "any" = some (.builtin "any") := by decide +kernel
theorem bt_max : bootBuiltins "max" = some (.builtin "max") := by decide +kernel
theorem bt_min : bootBuiltins "min" = some (.builtin "min") := by decide +kernel
section
variable {X : Cx} {W : DW} {pos : Pos}
theorem tk0 : Takes X (liftW X.K W0) := (takes0 (X := X)).imp fun _ _ _ _ ⟨_, _, _, _, _, _, h⟩ => h
theorem tkn {H0 : Hp} : Takes X (liftW X.K (Wn H0)) := (takes0 (X := X)).imp fun _ _ _ _ ⟨_, _, _, _, _, _, h⟩ => h
/-- a built-in class as a value -/
theorem pd_ty {x : Str} {n : String} (hg : Gl X x) (hm : X.mg x = none) (hv : bootBuiltins x = some (.type n)) (hn : x ≠ "__name__" := by decide) (hd : (x == ("__debug__" : Str)) = false := by decide) : PD X W (.Name x pos) (dC (.ty n)) :=
  pd_c (pe_bltn (v := .ty n) hg hm hv rfl hn hd) fun _ => .ty n
/-- a class of the program as a value -/
theorem pd_cls {x : Str} {C : Addr} (hg : Gl X x) (hm : X.mg x = some (.ref C)) (hd : (x == ("__debug__" : Str)) = false := by decide) : PD X W (.Name x pos) (dC (.ref C)) :=
  pd_c (pe_glob (v := .ref C) hg hm rfl hd) fun _ => .ref C
/-- a constant of the module -/
theorem pd_gint {x : Str} {i : Int} {t : Tok} (hg : Gl X x) (hm : X.mg x = some (.int i t)) (hd : (x == ("__debug__" : Str)) = false := by decide) : PD X W (.Name x pos) (dC (.int i)) :=
  pd_c (pe_glob (v := .int i) hg hm ⟨t, rfl⟩ hd) fun _ => .int i
theorem pd_gstr {x : Str} {z : Str} {t : Tok} (hg : Gl X x) (hm : X.mg x = some (.str z t)) (hd : (x == ("__debug__" : Str)) = false := by decide) : PD X W (.Name x pos) (dC (.str z)) :=
  pd_c (pe_glob (v := .str z) hg hm ⟨t, rfl⟩ hd) fun _ => .str z
/-- t * k, any k -/
def rRepA (K : PySem.W.Frag) : R2 := fun x y H Q => ∃ l k xs, x = .ref l ∧ y = .int k ∧ SqT K H l xs ∧ -(2 ^ 63) ≤ k ∧ k < 2 ^ 63 ∧ xs.length * k.toNat ≤ sizeLine ∧ (xs = [] ∨ k = 1 → Q (.ref l) H) ∧
  (¬ (xs = [] ∨ k = 1) → ∀ p, H p = none → Q (.ref p) (upd H p (.tup (List.replicate k.toNat xs).flatten)))
theorem op_repA : OpR X (binaryOp .Mult) (rRepA X.K) := by
  intro pins s σ H x y v u Q I rx ry ⟨l, k, xs, ex, ey, hT, k1, k2, hz, q1, q2⟩
  subst ex; subst ey
  cases rx
  obtain ⟨t, rfl⟩ := ry
  obtain ⟨its, r, ⟨⟨cls, dd, data, sl⟩, ho, hc, n, hd⟩, hs⟩ := I.tuple hT
  simp only at hc hd
  subst hc hd
  have hle : its.length = xs.length := r.length.symm
  have c0 : (decide (k < -(2 ^ 63)) || decide (k ≥ 2 ^ 63)) = false := by simp; omega
  have he : its.toArray.isEmpty = decide (xs = []) := by
    cases r with
    | nil => simp
    | cons _ _ => simp
  have road : ∀ {P : Builtin → (Result → Shared → Prop) → Shared → Prop} {b : Fin → Prop}, True := fun {_ _} => trivial
  have go : wpAny (model X.prog X.w) X.A (call (.builtin "tuple.__mul__") [.ref l, .int k t]) (EP X pins σ Q) X.xe s → wpAny (model X.prog X.w) X.A (binaryOp .Mult (.ref l) (.int k t)) (EP X pins σ Q) X.xe s := fun h =>
    wpAny_binaryOp_repeat_ref (T := "tuple") (U := "int") (by decide) ⟨_, ho, rfl⟩ (fun s' => typeIs_int s' k t) noFill_tuple_mul F.fills_int_mul F.slot_int_rmul repeat_tuple F.slot_int_index.lookup
      (call_meets F.slot_int_rmul (typeIs_int s k t) F.entry_int_rmul (F.args_int_rmul_2 _ _) (int_rmul_tuple k t l its.toArray n dd sl) ⟨ho, rfl, ⟨_, ho, rfl⟩, h⟩)
  by_cases hw : xs = [] ∨ k = 1
  · refine go (call_meets F.slot_tuple_mul ⟨_, ho, rfl⟩ F.entry_tuple_mul (F.args_tuple_mul_2 _ _) (DLmul.mul_self l its.toArray n dd sl k t c0 ?_) ⟨ho, ⟨.ref l, H, I, rfl, q1 hw⟩⟩)
    rw [he]
    rcases hw with h | h <;> simp [h]
  · have hx : xs ≠ [] := fun e => hw (.inl e)
    have hk : k ≠ 1 := fun e => hw (.inr e)
    have c1 : (its.toArray.isEmpty || k == 1) = false := by rw [he]; simp [hx, hk]
    by_cases hp : k ≤ 0
    · refine go (call_meets F.slot_tuple_mul ⟨_, ho, rfl⟩ F.entry_tuple_mul (F.args_tuple_mul_2 _ _) (DLmul.mul_zero l its.toArray n dd sl k t c0 c1 (by simp [hp])) ⟨ho, ?_⟩)
      have e0 : k.toNat = 0 := by omega
      refine ⟨.ref s.heap.objs.size, _, I.laid (t' := s.toks) (o := .tup []) (fun b ob q => Heap.get?_push_of_some _ q) (Nat.le_refl _) ⟨Nat.zero_le _, [], .nil, PyProof.Rows.IsTup.new _ _⟩, rfl, ?_⟩
      have := q2 hw s.heap.objs.size (I.hok.fresh (Nat.le_refl _))
      rw [e0] at this
      exact this
    · have hsz : (List.replicate k.toNat its).flatten.length ≤ sizeLine := by rw [PyProof.Rows.lm_len_rep_flat, hle, Nat.mul_comm]; exact hz
      have hm : ((its.toArray.size : Nat) : Int) * k ≤ 16777216 := by
        have e1 : k = (k.toNat : Int) := by omega
        rw [sizeLine_eq] at hz
        rw [e1, List.size_toArray, hle, ← Int.natCast_mul]
        exact Int.ofNat_le.mpr hz
      refine go (call_meets F.slot_tuple_mul ⟨_, ho, rfl⟩ F.entry_tuple_mul (F.args_tuple_mul_2 _ _) (tuple_mulW l its.toArray n dd sl k t c0 c1 (by rw [he]; simp [hx]; omega) (by omega) ?_ (by rw [size_rep, List.size_toArray]; exact hsz)) ⟨ho, ?_⟩)
      · unfold Builtin.Tuple.tupleTooMany
        rw [sizeLine_eq]
        exact decide_eq_false (by omega)
      · rw [size_rep]
        exact ⟨.ref s.heap.objs.size, _, I.laid (t' := s.toks) (o := .tup (List.replicate k.toNat xs).flatten) (fun b ob q => Heap.get?_push_of_some _ q) (Nat.le_refl _) ⟨by rw [PyProof.Rows.lm_len_rep_flat, Nat.mul_comm]; exact hz, _, r.rep k.toNat, PyProof.Rows.IsTup.new _ _⟩, rfl, q2 hw _ (I.hok.fresh (Nat.le_refl _))⟩
/-- * -/
def mulD : DO := fun x y M Q => match x, y with
  | .int i, .int j => CMulX i j ∧ Q (.int (i * j)) M
  | .tup xs, .int k => (-(2 ^ 63) ≤ k ∧ k < 2 ^ 63 ∧ xs.length * k.toNat ≤ sizeLine) ∧ Q (.tup (List.replicate k.toNat xs).flatten) M
  | .ref a, .int k => match M a with
    | some (.lst xs) => (-(2 ^ 63) ≤ k ∧ k < 2 ^ 63 ∧ xs.length * k.toNat ≤ sizeLine) ∧ ∀ p, M p = none → Q (.ref p) (put M p (.lst (List.replicate k.toNat xs).flatten))
    | _ => False
  | _, _ => False
theorem op_mulD : OpR X (binaryOp .Mult) (liftO X.K mulD) :=
  OpRimp ((op_mulX (X := X)).or ((op_repA (X := X)).or (op_rep (X := X)))) fun x y H Q ⟨dx, dy, M, Qd, q, a, b, c, k⟩ => by
    unfold mulD at q
    split at q
    · exact .inl ⟨_, _, a.toInt, b.toInt, q.1, k _ M _ H q.2 .refl (.int _) c⟩
    · rename_i xs kk
      obtain ⟨pa, va, rfl, sa, la⟩ := a.toTup
      obtain ⟨⟨k2, k3, z⟩, q⟩ := q
      refine .inr (.inl ⟨pa, kk, va, rfl, b.toInt, sa, k2, k3, by rw [la.length]; exact z, fun e => ?_, fun _ p hp => k.tup c (la.rep _) hp q⟩)
      rcases e with e | e
      · subst e
        have e' : xs = [] := by cases la; rfl
        subst e'
        have e2 : (List.replicate kk.toNat ([] : List D)).flatten = [] := by simp
        rw [e2] at q
        exact k _ M _ H q .refl (.tup sa la) c
      · subst e
        have e2 : (List.replicate (1 : Int).toNat xs).flatten = xs := by simp
        rw [e2] at q
        exact k _ M _ H q .refl (.tup sa la) c
    · rename_i pa kk
      split at q
      · rename_i xs e1
        obtain ⟨va, ha, la⟩ := c.lst e1
        obtain ⟨⟨k1, k2, z⟩, q⟩ := q
        exact .inr (.inr ⟨pa, kk, va, a.toRef, b.toInt, ha, k1, k2, by rw [la.length]; exact z, fun p hp => k.lst c (la.rep _) hp q⟩)
      · exact q.elim
    · exact q.elim
/-- a < b < c -/
def dChain (g g' : DO) (ta tb tc : DE) : DE := fun τ M Q E => ta τ M (fun x M1 => tb τ M1 (fun y M2 => g x y M2 (fun z M3 => match z with
  | .bl k => if k = true then tc τ M3 (fun z2 M4 => g' y z2 M4 Q) E else Q (.bl false) M3
  | _ => False)) E) E
theorem dChain_lift {g g' : DO} {ta tb tc : DE} {σ : L2.St} {H : Hp} {Q : VK} (h : liftE X.K W (dChain g g' ta tb tc) σ H Q) : tChain (liftO X.K g) (liftO X.K g') (liftE X.K W ta) (liftE X.K W tb) (liftE X.K W tc) σ H Q := by
  obtain ⟨τ, M, Qd, Ed, hs, hr, q, we, k⟩ := h
  refine ⟨τ, M, _, Ed, hs, hr, q, we, fun x M1 v H1 q1 e1 r1 h1 => ⟨τ, M1, _, Ed, hs.mono e1, h1, q1, we, fun y M2 u H2 q2 e2 r2 h2 => ?_⟩⟩
  refine ⟨x, y, M2, _, q2, r1.mono e2, r2, h2, fun z M3 zv H3 q3 e3 r3 h3 => ?_⟩
  dsimp only at q3
  split at q3
  · rename_i b
    refine ⟨b, r3.toBl, ?_⟩
    cases b with
    | false => exact k _ M3 _ H3 (by simpa using q3) (e1.trans (e2.trans e3)) (.bl _) h3
    | true =>
      simp only [if_true] at q3 ⊢
      exact ⟨τ, M3, _, Ed, hs.mono (e1.trans (e2.trans e3)), h3, q3, we, fun w M4 wv H4 q4 e4 r4 h4 => ⟨y, w, M4, Qd, q4, r2.mono (e3.trans e4), r4, h4, k.mono (e1.trans (e2.trans (e3.trans e4)))⟩⟩
  · exact q3.elim
theorem pd_chain {op op' : CmpOp} {g g' : DO} {a b c : Expr} {ta tb tc : DE} (ho : OpR X (compareOp op) (liftO X.K g)) (ho' : OpR X (compareOp op') (liftO X.K g')) (ha : PD X W a ta) (hb : PD X W b tb) (hc : PD X W c tc)
    (hm : lastMarks [op, op'] [b, c] = false := by with_unfolding_all rfl) : PD X W (.Compare a [op, op'] [b, c] pos) (dChain g g' ta tb tc) := ⟨PEimp (pe_chain ho ho' ha.run hb.run hc.run hm) fun _ _ _ h => dChain_lift h⟩
theorem ptd_chain {op op' : CmpOp} {g g' : DO} {a b c : Expr} {ta tb tc : DE} (ho : OpR X (compareOp op) (liftO X.K g)) (ho' : OpR X (compareOp op') (liftO X.K g')) (ha : PD X W a ta) (hb : PD X W b tb) (hc : PD X W c tc)
    (hm : lastMarks [op, op'] [b, c] = false := by with_unfolding_all rfl) : PTD X W (.Compare a [op, op'] [b, c] pos) (dB (dChain g g' ta tb tc)) :=
  ⟨PTimp (pt_chain ho ho' ha.run hb.run hc.run hm) fun σ H Q h => dChain_lift (Q := fun x H1 => ∃ k, x = .bl k ∧ Q k H1) (W := W) (by
    obtain ⟨τ, M, Qd, Ed, hs, hr, q, we, k⟩ := h
    exact ⟨τ, M, _, Ed, hs, hr, q, we, fun d M1 v H1 q1 e1 r1 h1 => by
      dsimp only at q1
      split at q1
      · exact ⟨_, r1.toBl, k _ M1 H1 q1 e1 h1⟩
      · exact q1.elim⟩)⟩
end
end DL
namespace DL
open PySem L2
/-! ### loops by an invariant -/
theorem dLoop_inv {g : DGt} {tb : DS} {kp : Mp → Prop} {Dn : DN} {its : List D} (I : Nat → Sl → Mp → Prop) (hk : ∀ i τ M, i ≤ its.length → I i τ M → kp M)
    (hs : ∀ (i : Nat) (d : D) (τ : Sl) (M : Mp) (nxt : Sl → Mp → Prop), its[i]? = some d → I i τ M → (∀ τ' M', I (i + 1) τ' M' → nxt τ' M') → g d τ M fun τ2 M2 => tb { Dn with nx := nxt, ct := nxt, bk := Dn.nx } τ2 M2)
    (hd : ∀ τ M, I its.length τ M → Dn.nx τ M) {τ : Sl} {M : Mp} (h0 : I 0 τ M) : dLoop g tb kp its Dn τ M := by
  have go : ∀ (n i : Nat), its.length - i = n → i ≤ its.length → ∀ τ M, I i τ M → dLoop g tb kp (its.drop i) Dn τ M := by
    intro n
    induction n with
    | zero =>
      intro i e hi τ M h
      have : i = its.length := by omega
      subst this
      rw [List.drop_length]
      exact ⟨hk _ _ _ hi h, hd τ M h⟩
    | succ n ih =>
      intro i e hi τ M h
      have hlt : i < its.length := by omega
      rw [List.drop_eq_getElem_cons hlt]
      exact ⟨hk _ _ _ hi h, hs i _ τ M _ (by simp [hlt]) h fun τ' M' h' => ih (i + 1) (by omega) hlt τ' M' h'⟩
  simpa using go _ 0 rfl (Nat.zero_le _) τ M h0
theorem dCL_inv {g : D → Sl → Sl} {tt : DT} {te : DE} {kp : Mp → Prop} {p : Addr} {τ : Sl} {F : Mp → Prop} {its : List D} (I : Nat → Mp → Prop) (hk : ∀ i M, i ≤ its.length → I i M → kp M)
    (hs : ∀ (i : Nat) (d : D) (M : Mp) (nxt : Mp → Prop), its[i]? = some d → I i M → (∀ M', I (i + 1) M' → nxt M') → tt (g d τ) M (fun b M1 => if b = true then te (g d τ) M1 (fun y M2 => match M2 p with
      | some (.lst acc) => acc.length < sizeLine ∧ nxt (put M2 p (.lst (acc ++ [y])))
      | _ => False) noE else nxt M1) noE)
    (hd : ∀ M, I its.length M → F M) {M : Mp} (h0 : I 0 M) : dCL g tt te kp p τ F its M := by
  have go : ∀ (n i : Nat), its.length - i = n → i ≤ its.length → ∀ M, I i M → dCL g tt te kp p τ F (its.drop i) M := by
    intro n
    induction n with
    | zero =>
      intro i e hi M h
      have : i = its.length := by omega
      subst this
      rw [List.drop_length]
      exact ⟨hk _ _ hi h, hd M h⟩
    | succ n ih =>
      intro i e hi M h
      have hlt : i < its.length := by omega
      rw [List.drop_eq_getElem_cons hlt]
      exact ⟨hk _ _ hi h, hs i _ M _ (by simp [hlt]) h fun M' h' => ih (i + 1) (by omega) hlt M' h'⟩
  simpa using go _ 0 rfl (Nat.zero_le _) M h0
end DL

set_option maxHeartbeats 4000000
namespace DL
open PySem L2
/-! ### tuples of ints in readings -/
def T (xs : List Int) : D := .tup (xs.map D.int)
variable {xs ys : List Int} {M : Mp} {Q : DK} {i j : Int}
theorem T_inj : T xs = T ys ↔ xs = ys := by
  unfold T
  constructor
  · intro h
    injection h with h
    exact (List.map_inj_right (fun a b e => by injection e)).mp h
  · rintro rfl; rfl
theorem getD_of {n : Nat} (h : n < xs.length) : xs[n]? = some (xs.getD n 0) := by
  rw [List.getD_eq_getElem?_getD, List.getElem?_eq_getElem h]; rfl
theorem lenG_T : lenG [T xs] M Q = Q (.int xs.length) M := by simp [lenG, lenD, T]
theorem ixN_in {n : Nat} (h0 : 0 ≤ i) (h1 : i < n) : ixN n i = some i.toNat := by
  unfold ixN
  rw [if_pos h0, if_pos h1]
theorem atI_T (h0 : 0 ≤ i) (h1 : i < xs.length) : atI (xs.map D.int) i = some (.int (xs.getD i.toNat 0)) := by
  unfold atI
  rw [List.length_map, ixN_in h0 h1]
  show (xs.map D.int)[i.toNat]? = _
  rw [List.getElem?_map, getD_of (by omega)]
  rfl
theorem ixG_T (h0 : 0 ≤ i) (h1 : i < xs.length) : ixG (T xs) (.int i) M Q = Q (.int (xs.getD i.toNat 0)) M := by
  unfold T ixG
  simp only
  rw [atI_T h0 h1]
theorem addD_T : addD (T xs) (T ys) M Q = (xs.length + ys.length ≤ sizeLine ∧ Q (T (xs ++ ys)) M) := by
  unfold T addD
  simp only [List.length_map, List.map_append]
theorem mulD_T {k : Int} : mulD (T xs) (.int k) M Q = ((-(2 ^ 63) ≤ k ∧ k < 2 ^ 63 ∧ xs.length * k.toNat ≤ sizeLine) ∧ Q (T (List.replicate k.toNat xs).flatten) M) := by
  unfold T mulD
  simp only [List.length_map, List.map_flatten, List.map_replicate]
theorem okL_ints : okL (xs.map D.int) = true := by
  induction xs with
  | nil => rfl
  | cons a l ih => simp [okL, ok, ih]
theorem depL_ints : depL (xs.map D.int) = 0 := by
  induction xs with
  | nil => rfl
  | cons a l ih => simp [depL, dep, ih]
theorem eqbL_ints : ∀ {xs ys : List Int}, eqbL (xs.map D.int) (ys.map D.int) = decide (xs = ys)
  | [], [] => by simp [eqbL]
  | [], _ :: _ => by simp [eqbL]
  | _ :: _, [] => by simp [eqbL]
  | x :: xs, y :: ys => by
    simp [eqbL, eqb, eqbL_ints (xs := xs) (ys := ys)]
    rw [Bool.beq_eq_decide_eq]
theorem eqG_T {n : Bool} : eqG n (T xs) (T ys) M Q = Q (.bl (n != decide (xs = ys))) M := by
  unfold T eqG eqOk
  simp [ok, dep, okL_ints, depL_ints, eqb, eqbL_ints]
theorem eqG_int {n : Bool} : eqG n (.int i) (.int j) M Q = Q (.bl (n != decide (i = j))) M := rfl
theorem eqD_T : eqD (T xs) (T ys) M Q = Q (.bl (decide (xs = ys))) M := by unfold eqD; rw [eqG_T, Bool.false_bne]
theorem eqD_int : eqD (.int i) (.int j) M Q = Q (.bl (decide (i = j))) M := by unfold eqD; rw [eqG_int, Bool.false_bne]
theorem neD_int : neD (.int i) (.int j) M Q = Q (.bl (!decide (i = j))) M := by unfold neD; rw [eqG_int, Bool.true_bne]
theorem rng_at {n : Nat} {f : Nat → D} {i : Nat} {d : D} (h : ((List.range n).map f)[i]? = some d) : i < n ∧ d = f i := by
  have h1 := (List.getElem?_eq_some_iff.mp h).1
  rw [List.length_map, List.length_range] at h1
  rw [List.getElem?_map, List.getElem?_range h1] at h
  exact ⟨h1, by simpa using h.symm⟩
theorem map_at {xs : List Int} {i : Nat} {d : D} (h : (xs.map D.int)[i]? = some d) : i < xs.length ∧ d = .int (xs.getD i 0) := by
  have h1 := (List.getElem?_eq_some_iff.mp h).1
  rw [List.length_map] at h1
  rw [List.getElem?_map, getD_of h1] at h
  exact ⟨h1, by simpa using h.symm⟩
theorem len_rng {n : Nat} {f : Nat → D} : ((List.range n).map f).length = n := by rw [List.length_map, List.length_range]
theorem cut_pre (h0 : 0 ≤ i) : cutD (xs.map D.int) none (some i) = (xs.take i.toNat).map D.int := by
  unfold cutD HT.sIx
  simp only [List.drop_zero, Nat.sub_zero, List.length_map]
  rw [if_neg (by omega)]
  rw [← List.map_take]
  congr 1
  rw [List.take_eq_take_iff]
  omega
theorem cut_post (h0 : 0 ≤ i) : cutD (xs.map D.int) (some i) none = (xs.drop i.toNat).map D.int := by
  unfold cutD HT.sIx
  simp only [List.length_map]
  rw [if_neg (by omega), ← List.map_drop, List.take_of_length_le (by rw [List.length_map, List.length_drop]; omega)]
  by_cases h : i.toNat ≤ xs.length
  · rw [Nat.min_eq_left h]
  · rw [Nat.min_eq_right (by omega), List.drop_eq_nil_of_le (by omega), List.drop_eq_nil_of_le (by omega)]
theorem cut_mid (h0 : 0 ≤ i) (h1 : i ≤ j) (h2 : i ≤ xs.length) : cutD (xs.map D.int) (some i) (some j) = ((xs.drop i.toNat).take (j - i).toNat).map D.int := by
  unfold cutD HT.sIx
  simp only [List.length_map]
  rw [if_neg (by omega), if_neg (by omega), ← List.map_drop, ← List.map_take]
  have e : min i.toNat xs.length = i.toNat := by omega
  rw [e]
  congr 1
  rw [List.take_eq_take_iff, List.length_drop]
  omega
theorem slG_pre (h0 : 0 ≤ i) : slG (T xs) none (some i) M Q = Q (T (xs.take i.toNat)) M := by
  unfold T slG
  simp only
  rw [cut_pre h0]
theorem slG_post (h0 : 0 ≤ i) : slG (T xs) (some i) none M Q = Q (T (xs.drop i.toNat)) M := by
  unfold T slG
  simp only
  rw [cut_post h0]
theorem slG_mid (h0 : 0 ≤ i) (h1 : i ≤ j) (h2 : i ≤ xs.length) : slG (T xs) (some i) (some j) M Q = Q (T ((xs.drop i.toNat).take (j - i).toNat)) M := by
  unfold T slG
  simp only
  rw [cut_mid h0 h1 h2]
theorem itemsOf_T : itemsOf (T xs) M = some (xs.map D.int) := rfl
theorem keepOf_T {its : List D} : keepOf (T xs) its = fun _ => True := rfl
theorem tup_T : D.tup [] = T [] := rfl
theorem tup_T1 : D.tup [.int i] = T [i] := rfl
theorem tupG_T : tupG [T xs] M Q = Q (T xs) M := rfl
/-- a field of an instance that is known -/
theorem fld_at {K : PySem.W.Frag} {a C : Addr} {fs : List (Str × D)} {f : Str} {v : D} (hM : M a = some (.ins C fs)) (hk : FldK K C f) (hl : fs.lookup f = some v) :
    (match M a with
    | some (.ins C fs) => FldK K C f ∧ match fs.lookup f with
      | some v => Q v M
      | none => False
    | _ => False) = Q v M := by
  rw [hM]
  simp only [hl, hk, true_and]
/-- lists of ints -/
theorem seqOf_lst {a : Addr} {ds : List D} (h : M a = some (.lst ds)) : seqOf M a = some ds := by unfold seqOf; rw [h]
theorem seqOf_rol {a : Addr} {ds : List D} (h : M a = some (.rol ds)) : seqOf M a = some ds := by unfold seqOf; rw [h]
theorem lenG_ref {a : Addr} {ds : List D} (h : seqOf M a = some ds) : lenG [.ref a] M Q = Q (.int ds.length) M := by
  unfold seqOf at h
  unfold lenG lenD
  cases e : M a with
  | none => rw [e] at h; cases h
  | some o =>
    rw [e] at h
    cases o <;> first | (cases h; simp only [e]) | cases h
theorem ixG_ref {a : Addr} {ns : List Int} (h : seqOf M a = some (ns.map D.int)) (h0 : 0 ≤ i) (h1 : i < ns.length) : ixG (.ref a) (.int i) M Q = Q (.int (ns.getD i.toNat 0)) M := by
  unfold ixG
  simp only
  rw [h]
  simp only [Option.bind_some]
  rw [atI_T h0 h1]
theorem blsOf_range {n : Nat} {f : Nat → Bool} : blsOf (((List.range n).map f).map D.bl) = some ((List.range n).map f) := blsOf_map _
theorem addD_int : addD (.int i) (.int j) M Q = Q (.int (i + j)) M := rfl
theorem mulD_int : mulD (.int i) (.int j) M Q = (CMulX i j ∧ Q (.int (i * j)) M) := rfl
theorem mulD_ref {a : Addr} {ns : List Int} {k : Int} (h : M a = some (.lst (ns.map D.int))) : mulD (.ref a) (.int k) M Q = ((-(2 ^ 63) ≤ k ∧ k < 2 ^ 63 ∧ ns.length * k.toNat ≤ sizeLine) ∧ ∀ p, M p = none → Q (.ref p) (put M p (.lst ((List.replicate k.toNat ns).flatten.map D.int)))) := by
  unfold mulD
  simp only [h, List.length_map, List.map_flatten, List.map_replicate]
theorem addD_ref {a b : Addr} {ns ms : List Int} (h : M a = some (.lst (ns.map D.int))) (h' : M b = some (.lst (ms.map D.int))) : addD (.ref a) (.ref b) M Q = (ns.length + ms.length ≤ sizeLine ∧ ∀ p, M p = none → Q (.ref p) (put M p (.lst ((ns ++ ms).map D.int)))) := by
  unfold addD
  simp only [h, h', List.length_map, List.map_append]
theorem slG_rpre {a : Addr} {ns : List Int} (h : seqOf M a = some (ns.map D.int)) (h0 : 0 ≤ i) : slG (.ref a) none (some i) M Q = ∀ p, M p = none → Q (.ref p) (put M p (.lst ((ns.take i.toNat).map D.int))) := by
  unfold slG
  simp only [h]
  rw [cut_pre h0]
theorem slG_rpost {a : Addr} {ns : List Int} (h : seqOf M a = some (ns.map D.int)) (h0 : 0 ≤ i) : slG (.ref a) (some i) none M Q = ∀ p, M p = none → Q (.ref p) (put M p (.lst ((ns.drop i.toNat).map D.int))) := by
  unfold slG
  simp only [h]
  rw [cut_post h0]
theorem tupG_ref {a : Addr} {ns : List Int} (h : seqOf M a = some (ns.map D.int)) : tupG [.ref a] M Q = Q (T ns) M := by
  simp only [tupG, h]
  rfl
theorem lstG_T : lstG [T xs] M Q = ∀ p, M p = none → Q (.ref p) (put M p (.lst (xs.map D.int))) := rfl
theorem sub_put {M : Mp} {p : Addr} {o : MO} (h : M p = none) : Sub M (DL.put M p o) := Sub.refl.put h
/-- while by a variant -/
theorem dWh_inv {c : DT} {tb : DS} {Dn : DN} (I : Nat → Sl → Mp → Prop)
    (step : ∀ (n : Nat) (τ : Sl) (M : Mp) (nxt : Sl → Mp → Prop), I n τ M → (∀ m, n = m + 1 → ∀ τ' M', I m τ' M' → nxt τ' M') →
      c τ M (fun b M1 => if b = true then tb { Dn with nx := nxt, ct := nxt, bk := Dn.nx } τ M1 else Dn.nx τ M1) (exOf Dn τ)) {n : Nat} {τ : Sl} {M : Mp} (h : I n τ M) : dWhile c tb Dn τ M := by
  refine ⟨n + 1, ?_⟩
  have go : ∀ (n : Nat) (τ : Sl) (M : Mp), I n τ M → dWhN c tb (n + 1) Dn τ M := by
    intro n
    induction n with
    | zero => exact fun τ M h => step 0 τ M _ h fun m e => by omega
    | succ n ih =>
      intro τ M h
      refine step (n + 1) τ M _ h fun m e τ' M' h' => ?_
      have : m = n := by omega
      subst this
      exact ih τ' M' h'
  exact go n τ M h
end DL

set_option maxHeartbeats 4000000
namespace DL
open PySem L2
/-! ### a list of the module's own: it is read in every heap -/
def KL (K : PySem.W.Frag) (a : Addr) (ns : List Int) : Prop := ∀ H, SqL K H a (ns.map V.int)
def lenK (K : PySem.W.Frag) : DG := fun ds M Q => match ds with
  | [.ref a] => ∃ ns, KL K a ns ∧ Q (.int ((ns.length : Nat) : Int)) M
  | _ => False
def ixK (K : PySem.W.Frag) : DO := fun x y M Q => match x, y with
  | .ref a, .int i => ∃ ns, KL K a ns ∧ 0 ≤ i ∧ i < ns.length ∧ Q (.int (ns.getD i.toNat 0)) M
  | _, _ => False
def lstK (K : PySem.W.Frag) : DG := fun ds M Q => match ds with
  | [.ref a] => ∃ ns : List Int, KL K a ns ∧ ∀ p, M p = none → Q (.ref p) (put M p (.lst (ns.map D.int)))
  | _ => False
section
variable {X : Cx}
theorem call_lenK : CallR X (.builtin "len") (liftC X.K (lenK X.K)) := CallRimp call_len fun xs H Q ⟨ds, M, Qd, q, r, hr, k⟩ => by
  unfold lenK at q
  split at q
  · obtain ⟨ns, h, q⟩ := q
    obtain ⟨v, rfl, rv⟩ := r.one
    rw [rv.toRef]
    exact ⟨_, ns.length, rfl, .inl ⟨_, h H, (List.length_map ..).symm⟩, k _ M _ H q .refl (.int _) hr⟩
  · exact q.elim
theorem ix_K : IxR X (liftO X.K (ixK X.K)) := IxRimp ix_seq fun x y H Q ⟨dx, dy, M, Qd, q, a, b, c, k⟩ => by
  unfold ixK at q
  split at q
  · obtain ⟨ns, h, h0, h1, q⟩ := q
    refine .inl ⟨_, _, _, .int (ns.getD _ 0), a.toRef, b.toInt, h H, ?_, k _ M _ H q .refl (.int _) c⟩
    unfold atI
    rw [List.length_map, ixN_in h0 h1, Option.bind_some, List.getElem?_map, getD_of (by omega)]
    rfl
  · exact q.elim
theorem call_lstK : CallR X (.type "list") (liftC X.K (lstK X.K)) := CallRimp call_list_of fun xs H Q ⟨ds, M, Qd, q, r, hr, k⟩ => by
  unfold lstK at q
  split at q
  · obtain ⟨ns, h, q⟩ := q
    obtain ⟨v, rfl, rv⟩ := r.one
    rw [rv.toRef]
    exact ⟨_, _, rfl, .inl (h H), fun p hp => k.lst hr RpL.ofInts hp q⟩
  · exact q.elim
end
section
variable {P : Program} {w : World} {K : PySem.W.Frag} {mg : Str → Option Value} {base : Heap}
/-- a def with defaults -/
theorem okDf {x qual : Str} {st : Stmt} {f : Addr} {fd : FuncData} {N ps : List Str} {k : Nat} {sp : DSp} {dvs : List V} {kws : List (Str × V)} (F : FunD K x qual (defArgs st) (defBody st) (defScope st) dvs kws f fd) (S : FnScope N ps (defScope st)) (len : ∀ ds M Q E, sp ds M Q E → ds.length = ps.length)
    (hbody : ∀ (cdv : Value) (A : Around) (outer : List Env) (s : Shared) (H : Hp) (E : XK), Room k (A.deeper (PyProof.Rows.envOfC qual (defScope st) s.heap.objs.size f cdv)) →
      Takes (cxOf (L2.CX P w) P w K mg base N qual (defScope st) f cdv A outer s H E) (liftW K (defW K H E)) →
      ∃ t, PSsD (cxOf (L2.CX P w) P w K mg base N qual (defScope st) f cdv A outer s H E) (defW K H E) (defBody st) t ∧ ∀ ds M Q E', sp ds M Q E' → t (ends Q E') (dstart N ds) M) :
    FnOk P w K mg base (L2.CX P w) (k + 1) f fd ps (liftSp K sp) := by
  refine F.ok S (fun vs H Q E ⟨ds, M, Qd, Ed, hsp, r, _⟩ => r.length.trans (len ds M Qd Ed hsp)) fun cdv A outer s H vs Q E hr ⟨ds, M, Qd, Ed, hsp, r, hr', kc, xc⟩ => ?_
  obtain ⟨t, ht, q⟩ := hbody cdv A outer s H E hr (Takes.imp (takes_of rfl rfl rfl rfl) fun c d σ H' ⟨x, τ, M', rs, h2, xr, hw⟩ => hw H' c d rs.ext xr h2)
  refine ⟨_, ht.run, dstart N ds, M, ends Qd Ed, rs_start r, hr', q ds M Qd Ed hsp, fun x τ M' ⟨M0, sb, h⟩ H' cls d e xr h2 => xc x M0 cls d H' h e xr (h2.sub sb), ?_⟩
  exact ⟨fun τ M' σ H' ⟨M0, sb, h⟩ e _ h2 => kc _ M0 _ H' h e .non (h2.sub sb), fun d M' v H' ⟨M0, sb, h⟩ e rv h2 => kc d M0 v H' h e rv (h2.sub sb), fun _ _ _ _ z => z.elim, fun _ _ _ _ z => z.elim⟩
/-- one of two promises -/
theorem fnOk_or {k : Nat} {f : Addr} {fd : FuncData} {ps : List Str} {sp1 sp2 sp : DSp} (F1 : FnOk P w K mg base (L2.CX P w) k f fd ps (liftSp K sp1)) (F2 : FnOk P w K mg base (L2.CX P w) k f fd ps (liftSp K sp2))
    (h : ∀ ds M Q E, sp ds M Q E → sp1 ds M Q E ∨ sp2 ds M Q E) : FnOk P w K mg base (L2.CX P w) k f fd ps (liftSp K sp) :=
  ⟨fun vs H Q E ⟨ds, M, Qd, Ed, q, r⟩ => (h _ _ _ _ q).elim (fun q => F1.len vs H Q E ⟨ds, M, Qd, Ed, q, r⟩) fun q => F2.len vs H Q E ⟨ds, M, Qd, Ed, q, r⟩,
   fun A outer s H args us vs Q E hr he hb hv ⟨ds, M, Qd, Ed, q, r⟩ => (h _ _ _ _ q).elim (fun q => F1.run A outer s H args us vs Q E hr he hb hv ⟨ds, M, Qd, Ed, q, r⟩) fun q => F2.run A outer s H args us vs Q E hr he hb hv ⟨ds, M, Qd, Ed, q, r⟩⟩
theorem fnOk_no {k : Nat} {f : Addr} {fd : FuncData} {ps : List Str} : FnOk P w K mg base (L2.CX P w) k f fd ps (liftSp K fun _ _ _ _ => False) :=
  ⟨fun vs H Q E ⟨ds, M, Qd, Ed, q, r⟩ => q.elim, fun A outer s H args us vs Q E hr he hb hv ⟨ds, M, Qd, Ed, q, r⟩ => q.elim⟩
end
/-! ### classes by their facts -/
theorem kitCls_of {K : PySem.W.Frag} {t : Value} {C : Addr} {b : Bool} (h1 : PySem.W.isClsIn K C = true) (h2 : PySem.W.typeIn K (.ref C) = some (.type "type")) (h3 : PySem.W.subIn K t (.ref C) = some b) : PySem.W.kitCls K t (.ref C) = some b := by
  have e2 : ((PySem.W.clsIn K C).isSome && PySem.W.typeIn K (.ref C) == some (.type "type")) = true := by
    have h1' : (PySem.W.clsIn K C).isSome = true := h1
    rw [h1', h2]
    rfl
  unfold PySem.W.kitCls
  simp only [e2, if_true]
  exact h3
theorem kit_ne {K : PySem.W.Frag} {a C : Addr} {b : Bool} (hn : (a == C) = false) (h1 : PySem.W.isClsIn K C = true) (h2 : PySem.W.typeIn K (.ref C) = some (.type "type")) (h3 : PySem.W.subIn K (.ref a) (.ref C) = some b) : PySem.W.kitOne K (.ref a) (.ref C) = some b := by
  have e : (Value.ref a == Value.ref C) = false := beq_eq_false_iff_ne.mpr fun e => by
    cases e
    rw [beq_self_eq_true] at hn
    cases hn
  unfold PySem.W.kitOne
  rw [if_neg (by rw [e]; exact Bool.false_ne_true)]
  exact kitCls_of h1 h2 h3
theorem kit_self {K : PySem.W.Frag} {a : Addr} : PySem.W.kitOne K (.ref a) (.ref a) = some true := by
  have e : (Value.ref a == Value.ref a) = true := beq_self_eq_true (Value.ref a)
  unfold PySem.W.kitOne
  rw [if_pos e]
theorem kit_bt {K : PySem.W.Frag} {a : Addr} {n : String} {b : Bool} (hm : PySem.W.kitMeta n = true) (h : PySem.W.subIn K (.ref a) (.type n) = some b) : PySem.W.kitOne K (.ref a) (.type n) = some b := by
  unfold PySem.W.kitOne
  have e : (Value.ref a == Value.type n) = false := beq_eq_false_iff_ne.mpr fun e => by cases e
  rw [if_neg (by rw [e]; exact Bool.false_ne_true)]
  unfold PySem.W.kitCls
  simp only [hm, if_true]
  exact h
theorem exm_sub {K : PySem.W.Frag} {t : Value} {C : Addr} {b : Bool} (h0 : PySem.W.subIn K (.ref C) (.type "BaseException") = some true) (h1 : PySem.W.isClsIn K C = true) (h2 : PySem.W.typeIn K (.ref C) = some (.type "type")) (h3 : PySem.W.subIn K t (.ref C) = some b) : PySem.W.exmOne K t (.ref C) = some b := by
  unfold PySem.W.exmOne
  rw [if_pos (by rw [h0]; rfl)]
  exact kitCls_of h1 h2 h3
theorem meta_VE : PySem.W.kitMeta "ValueError" = true := by decide +kernel
/-! ### the end of a law of a script -/
/-- what law(script) promises -/
def spScript (K : PySem.W.Frag) : DSp := fun ds M Q _ => ∃ (a : Addr) (ns : List Int), ds = [.ref a] ∧ (M a = some (.rol (ns.map D.int)) ∨ KL K a ns) ∧ ns.length ≤ 100000 ∧ (∀ z ∈ ns, Builtin.Int.intBits z ≤ 1048576) ∧ ∀ M1, Q (.bl true) M1
theorem walkD {l : PySem.W.OpenLaw} {n k : Nat} {q : Program} {loose : List Str} {XP : (Str → Option Value) → Heap → Prop} {YP : World → Heap → Prop} {d : DefRec} {K : Params → PySem.W.Frag} {x : Str} (hn : l.most = some n) (hn2 : n ≤ 100000) (hdf : d.params.defaults = []) (hr : Room k callerA)
    (hY : ∀ (w : World) (h : Heap), YP w h → (K w.params).In h)
    (F : ∀ (w : World) (mg : Str → Option Value) (fa : Addr) (h : Heap), (K w.params).In h → h.Ns mainGlobals mg → mg d.name = some (.ref fa) →
      ∃ fd : FuncData, (∀ (s : Shared) (u : Value), BindsTo s fd ⟨[u], []⟩ [(x, u)]) ∧ ∀ base : Heap, (K w.params).In base → base.Ns mainGlobals mg → FnOk l.prog w (K w.params) mg base (L2.CX l.prog w) k fa fd [x] (liftSp (K w.params) (spScript (K w.params)))) :
    PySem.W.WalkO q loose XP YP l.row.toRowW d [] (fun f vs => PySem.call f vs) :=
  L2.walk_ofB (n := n) (k := k) (x := x) (CX := fun w => L2.CX l.prog w) (sp := fun w => liftSp (K w.params) (spScript (K w.params))) hn (Nat.le_trans hn2 (by rw [PySem.sizeLine_eq]; omega)) hdf hr hY F
    (fun w H a ns hl hbits hO hS => by
      have fin : ∀ M, HR (K w.params) H M → (M a = some (.rol (ns.map D.int)) ∨ KL (K w.params) a ns) → liftSp (K w.params) (spScript (K w.params)) [.ref a] H (fun v _ => v = .bl true) fun _ _ _ => False := fun M hr hM =>
        ⟨[.ref a], M, fun d _ => d = .bl true, fun _ _ => False, ⟨a, ns, rfl, hM, Nat.le_trans hl hn2, hbits, fun _ => rfl⟩, .cons (.ref a) .nil, hr, fun d M' v H' e _ rv _ => by subst e; exact rv.toBl, fun _ _ _ _ _ h => h.elim⟩
      rcases hS with (h | ⟨o, h⟩) | h
      · rcases hO a with e | ⟨o, xs, e⟩
        · rw [e] at h; cases h
        · rw [e] at h; cases h
      · refine fin (fun b => if b = a then some (.rol (ns.map D.int)) else none) (fun b u e => ?_) (.inl (if_pos rfl))
        have e : (if b = a then some (MO.rol (ns.map D.int)) else none) = some u := e
        by_cases c : b = a
        · subst c
          rw [if_pos rfl] at e
          cases e
          exact ⟨o, _, h, RpL.ofInts⟩
        · rw [if_neg c] at e
          cases e
      · exact fin (fun _ => none) (fun b u e => by cases e) (.inr fun H' => .inr h))
    fun w H s e s' h => by
      obtain ⟨_, _, _, _, _, _, _, _, _, _, _, _, h⟩ := h
      exact h
end DL

set_option maxHeartbeats 4000000
namespace DL
open PySem PySem.Spec L2
/-! ### in, not in: flat items -/
def flatD : D → Bool
  | .non => true
  | .bl _ => true
  | .int _ => true
  | .str _ => true
  | .tup _ => false
  | .ref _ => false
  | .ty _ => false
theorem flatD_ok {K : PySem.W.Frag} {H : Hp} {v : V} {d : D} (r : Rp K H v d) (h : flatD d = true) : flatV v = true := by
  cases r <;> first | rfl | cases h
theorem flatL_ok {K : PySem.W.Frag} {H : Hp} : ∀ {vs : List V} {ds : List D}, RpL K H vs ds → ds.all flatD = true → vs.all flatV = true
  | _, _, .nil, _ => rfl
  | _, _, .cons r l, h => by
    rw [List.all_cons, Bool.and_eq_true] at h
    rw [List.all_cons, flatD_ok r h.1, flatL_ok l h.2]
    rfl
theorem eqV_flat {K : PySem.W.Frag} {H : Hp} {v u : V} {d e : D} (r : Rp K H v d) (q : Rp K H u e) (h : flatD d = true) (h' : flatD e = true) : eqV v u = eqb d e := by
  cases r <;> cases q <;> first | rfl | (simp [eqV, eqb]; done) | cases h | cases h'
theorem inV_flat {K : PySem.W.Frag} {H : Hp} {u : V} {e : D} (q : Rp K H u e) (h' : flatD e = true) : ∀ {vs : List V} {ds : List D}, RpL K H vs ds → ds.all flatD = true → inV u vs = ds.any fun d => eqb d e
  | _, _, .nil, _ => rfl
  | _, _, .cons r l, h => by
    rw [List.all_cons, Bool.and_eq_true] at h
    have := inV_flat q h' l h.2
    unfold inV at this ⊢
    rw [List.any_cons, List.any_cons, this, eqV_flat r q h.1 h']
/-- the items of a list or a tuple -/
def seqD (d : D) (M : Mp) : Option (List D) := match d with
  | .tup xs => some xs
  | .ref a => seqOf M a
  | _ => none
theorem seqD_ok {K : PySem.W.Frag} {H : Hp} {M : Mp} {v : V} {d : D} {ds : List D} (r : Rp K H v d) (hr : HR K H M) (h : seqD d M = some ds) : ∃ a vs, v = .ref a ∧ (SqL K H a vs ∨ SqT K H a vs) ∧ RpL K H vs ds := by
  cases d with
  | tup xs =>
    cases h
    obtain ⟨a, vs, rfl, s, l⟩ := r.toTup
    exact ⟨a, vs, rfl, .inr s, l⟩
  | ref a =>
    have h' : seqOf M a = some ds := h
    obtain ⟨vs, s, l⟩ := seqOf_ok hr h'
    exact ⟨a, vs, r.toRef, .inl s, l⟩
  | _ => cases h
def inG (n : Bool) : DO := fun x y M Q => match seqD y M with
  | some ys => flatD x = true ∧ ys.all flatD = true ∧ Q (.bl (n != ys.any fun d => eqb d x)) M
  | none => False
section
variable {X : Cx} {W : DW} {pos p : Pos}
theorem op_inG : OpR X (compareOp .In) (liftO X.K (inG false)) := OpRimp op_in_seq fun x y H Q ⟨dx, dy, M, Qd, q, a, b, c, k⟩ => by
  unfold inG at q
  split at q
  · rename_i ys e
    obtain ⟨l, vs, rfl, s, r⟩ := seqD_ok b c e
    refine ⟨l, vs, rfl, s, flatD_ok a q.1, flatL_ok r q.2.1, ?_⟩
    rw [inV_flat a q.1 r q.2.1]
    exact k _ M _ H (by simpa using q.2.2) .refl (.bl _) c
  · exact q.elim
theorem op_notInG : OpR X (compareOp .NotIn) (liftO X.K (inG true)) := OpRimp op_notIn_seq fun x y H Q ⟨dx, dy, M, Qd, q, a, b, c, k⟩ => by
  unfold inG at q
  split at q
  · rename_i ys e
    obtain ⟨l, vs, rfl, s, r⟩ := seqD_ok b c e
    refine ⟨l, vs, rfl, s, flatD_ok a q.1, flatL_ok r q.2.1, ?_⟩
    rw [inV_flat a q.1 r q.2.1]
    exact k _ M _ H (by simpa using q.2.2) .refl (.bl _) c
  · exact q.elim
/-! ### methods of built-in things -/
abbrev DM := D → List D → Mp → DK → Prop
def liftM (K : PySem.W.Frag) (g : DM) : V → List V → Hp → VK → Prop := fun x xs H Q => ∃ d ds M Qd, g d ds M Qd ∧ Rp K H x d ∧ RpL K H xs ds ∧ HR K H M ∧ KC K H Qd Q
/-- what has the methods of T -/
def metT (T : String) (d : D) (M : Mp) : Prop := match d with
  | .str _ => T = "str"
  | .ref a => match M a with
    | some (.lst _) => T = "list"
    | some (.rol _) => T = "list"
    | some (.dk _) => T = "dict"
    | _ => False
  | _ => False
theorem metT_ok {K : PySem.W.Frag} {H : Hp} {M : Mp} {v : V} {d : D} {T : String} (r : Rp K H v d) (hr : HR K H M) (h : metT T d M) : tyV K T v H := by
  cases d with
  | str x => cases r; exact h
  | ref a =>
    cases r
    have h' : (match M a with
      | some (.lst _) => T = "list"
      | some (.rol _) => T = "list"
      | some (.dk _) => T = "dict"
      | _ => False) := h
    cases e : M a with
    | none => rw [e] at h'; exact h'.elim
    | some o =>
      rw [e] at h'
      cases o with
      | lst xs => obtain ⟨vs, q, _⟩ := hr.lst e; exact .inl ⟨h', vs, .of q⟩
      | rol xs => obtain ⟨o, vs, q, _⟩ := hr.rol e; exact .inl ⟨h', vs, .inl (.inr ⟨o, q⟩)⟩
      | dk xs => obtain ⟨vs, q, _⟩ := hr.dk e; exact .inr (.inr (.inl ⟨h', .inl ⟨vs, q⟩⟩))
      | ins C xs => exact h'.elim
      | xd xs => exact h'.elim
      | rdk xs => exact h'.elim
  | _ => exact h.elim
def dBM (T : String) (g : DM) (to : DE) (t : DA) : DE := fun τ M Q E => to τ M (fun d M1 => metT T d M1 ∧ t τ M1 (fun ds M2 => g d ds M2 Q) E) E
theorem dBM_lift {T : String} {g : DM} {to : DE} {t : DA} {σ : L2.St} {H : Hp} {Q : VK} (h : liftE X.K W (dBM T g to t) σ H Q) : tBM X.K T (liftM X.K g) (liftE X.K W to) (liftA X.K W t) σ H Q := by
  obtain ⟨τ, M, Qd, Ed, hs, hr, q, we, k⟩ := h
  refine ⟨τ, M, _, Ed, hs, hr, q, we, fun d M1 v H1 q1 e1 r1 h1 => ⟨metT_ok r1 h1 q1.1, τ, M1, _, Ed, hs.mono e1, h1, q1.2, we, fun ds M2 vs H2 q2 e2 r2 h2 => ?_⟩⟩
  exact ⟨d, ds, M2, Qd, q2, r1.mono e2, r2, h2, k.mono (e1.trans e2)⟩
variable {o e : Expr} {es : List Expr} {to : DE} {t : DA} {name : Str} {apos cpos : Pos} {T id : String} {g : DM}
theorem pd_bm (pa : PlainAttrs T) (slot : Slot T name id) (hty : typeOf (.builtin id) = pure (.type "method_descriptor")) (hm : MtR X id (liftM X.K g)) (ho : PD X W o to) (ha : PAD X W (e :: es) t)
    (hbase : attributeBase o name X.env (eval o X.env) = eval o X.env := by rfl)
    (hfew : ((backTo cpos (starEach (e :: es) X.env)).all (fun x => !x.1) && (backToKw cpos (keywordEach [] X.env)).all (fun x => x.1.isSome)
      && decide ((e :: es).length + ([] : List Keyword).length + (if ([] : List Keyword).isEmpty then 0 else 1) < 30)) = true := by rfl)
    (hline : (apos.endLine == cpos.line) = true := by rfl) (hs : starEach (e :: es) X.env = (false, eval e X.env) :: starEach es X.env := by rfl) (hplain : (backTo cpos (starEach es X.env)).any (·.1) = false := by rfl) :
    PD X W (.Call (.Attribute o name apos) (e :: es) [] cpos) (dBM T g to t) := ⟨PEimp (pe_bm pa slot hty hm ho.run ha.run hbase hfew hline hs hplain) fun _ _ _ h => dBM_lift h⟩
theorem pd_bm0 (pa : PlainAttrs T) (slot : Slot T name id) (hty : typeOf (.builtin id) = pure (.type "method_descriptor")) (hm : MtR X id (liftM X.K g)) (ho : PD X W o to)
    (hbase : attributeBase o name X.env (eval o X.env) = eval o X.env := by rfl) (hline : (apos.endLine == cpos.line) = true := by rfl) :
    PD X W (.Call (.Attribute o name apos) [] [] cpos) (dBM T g to dNil) := ⟨PEimp (pe_bm0 pa slot hty hm ho.run hbase hline) fun σ H Q ⟨τ, M, Qd, Ed, hs, hr, q, we, k⟩ =>
  ⟨τ, M, _, Ed, hs, hr, q, we, fun d M1 v H1 q1 e1 r1 h1 => ⟨metT_ok r1 h1 q1.1, d, [], M1, Qd, q1.2, r1, .nil, h1, k.mono e1⟩⟩⟩
theorem MtRimp {r r' : V → List V → Hp → VK → Prop} (h : MtR X id r) (i : ∀ x xs H Q, r' x xs H Q → r x xs H Q) : MtR X id r' := fun pins s σ H x xs v us Q I rx rs q => h pins s σ H x xs v us Q I rx rs (i x xs H Q q)
/-- a list is written anew -/
theorem KC.wrote {K : PySem.W.Frag} {H : Hp} {M : Mp} {Qd : DK} {Q : VK} {v : V} {d : D} {xs xs' : List V} {ds' : List D} {a : Addr} (k : KC K H Qd Q) (hr : HR K H M) (hv : H a = some (.lst xs)) (l : RpL K H xs' ds') (r : Rp K H v d) (q : Qd d (put M a (.lst ds'))) : Q v (upd H a (.lst xs')) := by
  have e : TExt K H (upd H a (.lst xs')) := .upd (noTup_lst hv)
  exact k d _ v _ q e (r.mono e) (hr.made (noTup_lst hv) ⟨xs', upd_same, l.mono e⟩)
def appendM : DM := fun d ds M Q => match d, ds with
  | .ref a, [y] => match M a with
    | some (.lst xs) => xs.length < sizeLine ∧ Q .non (put M a (.lst (xs ++ [y])))
    | _ => False
  | _, _ => False
theorem mt_appendM : MtR X "list.append" (liftM X.K appendM) := MtRimp mt_append fun x xs H Q ⟨d, ds, M, Qd, q, rx, rs, hr, k⟩ => by
  unfold appendM at q
  split at q
  · rename_i a y
    obtain ⟨v, rfl, rv⟩ := rs.one
    split at q
    · rename_i ys e
      obtain ⟨vs, hv, l⟩ := hr.lst e
      exact ⟨a, vs, v, rx.toRef, rfl, hv, by rw [l.length]; exact q.1, k.wrote hr hv (l.append (.cons rv .nil)) .non q.2⟩
    · exact q.elim
  · exact q.elim
def extendM : DM := fun d ds M Q => match d, ds with
  | .ref a, [.ref b] => match M a, M b with
    | some (.lst xs), some (.lst ys) => xs.length + ys.length ≤ sizeLine ∧ Q .non (put M a (.lst (xs ++ ys)))
    | _, _ => False
  | _, _ => False
theorem mt_extendM : MtR X "list.extend" (liftM X.K extendM) := MtRimp mt_extend fun x xs H Q ⟨d, ds, M, Qd, q, rx, rs, hr, k⟩ => by
  unfold extendM at q
  split at q
  · rename_i a b
    obtain ⟨v, rfl, rv⟩ := rs.one
    split at q
    · rename_i xs ys e1 e2
      obtain ⟨vs, hv, l⟩ := hr.lst e1
      obtain ⟨us, hu, l2⟩ := hr.lst e2
      exact ⟨a, b, vs, us, rx.toRef, by rw [rv.toRef], hv, hu, by rw [l.length, l2.length]; exact q.1, k.wrote hr hv (l.append l2) .non q.2⟩
    · exact q.elim
  · exact q.elim
def reverseM : DM := fun d ds M Q => match d, ds with
  | .ref a, [] => match M a with
    | some (.lst xs) => Q .non (put M a (.lst xs.reverse))
    | _ => False
  | _, _ => False
theorem mt_reverseM : MtR X "list.reverse" (liftM X.K reverseM) := MtRimp mt_reverse fun x xs H Q ⟨d, ds, M, Qd, q, rx, rs, hr, k⟩ => by
  unfold reverseM at q
  split at q
  · rename_i a
    split at q
    · rename_i xs e1
      obtain ⟨vs, hv, l⟩ := hr.lst e1
      exact ⟨a, vs, rx.toRef, rs.nil_of, hv, k.wrote hr hv l.reverse .non q⟩
    · exact q.elim
  · exact q.elim
theorem RpL.erase {K : PySem.W.Frag} {H : Hp} : ∀ {xs : List V} {ds : List D} (i : Nat), RpL K H xs ds → RpL K H (xs.eraseIdx i) (ds.eraseIdx i)
  | _, _, _, .nil => by simpa using RpL.nil
  | _, _, 0, .cons _ l => l
  | _, _, i + 1, .cons r l => .cons r (RpL.erase i l)
/-- pop(i), i not below 0 -/
def popM : DM := fun d ds M Q => match d, ds with
  | .ref a, [.int i] => match M a with
    | some (.lst xs) => 0 ≤ i ∧ i < xs.length ∧ xs.length ≤ sizeLine ∧ match xs[i.toNat]? with
      | some y => Q y (put M a (.lst (xs.eraseIdx i.toNat)))
      | none => False
    | _ => False
  | .ref a, [] => match M a with
    | some (.lst xs) => match xs[xs.length - 1]? with
      | some y => Q y (put M a (.lst xs.dropLast))
      | none => False
    | _ => False
  | _, _ => False
theorem mt_popM : MtR X "list.pop" (liftM X.K popM) := MtRimp (MtR.or mt_popAt mt_pop) fun x xs H Q ⟨d, ds, M, Qd, q, rx, rs, hr, k⟩ => by
  unfold popM at q
  split at q
  · rename_i a i
    obtain ⟨v, rfl, rv⟩ := rs.one
    split at q
    · rename_i xs e1
      obtain ⟨vs, hv, l⟩ := hr.lst e1
      obtain ⟨h0, h1, h2, q⟩ := q
      split at q
      · rename_i y ey
        obtain ⟨u, hu, ru⟩ := l.get ey
        rw [sizeLine_eq] at h2
        refine .inl ⟨a, vs, i, i.toNat, u, rx.toRef, by rw [rv.toInt], hv, by omega, by omega, ?_, hu, k.wrote hr hv (l.erase _) ru q⟩
        have := (ixN_seq (n := vs.length) (i := i) (j := i.toNat) (ixN_in h0 (by rw [l.length]; exact h1))).1
        exact this
      · exact q.elim
    · exact q.elim
  · rename_i a
    split at q
    · rename_i xs e1
      obtain ⟨vs, hv, l⟩ := hr.lst e1
      split at q
      · rename_i y ey
        rw [← l.length] at ey
        obtain ⟨u, hu, ru⟩ := l.get ey
        exact .inr ⟨a, vs, u, rx.toRef, rs.nil_of, hv, hu, k.wrote hr hv l.dropLast ru q⟩
      · exact q.elim
    · exact q.elim
  · exact q.elim
/-! ### sums -/
def intsOf : List D → Option (List Int)
  | [] => some []
  | .int i :: ds => (intsOf ds).map (i :: ·)
  | _ :: _ => none
theorem intsOf_map : ∀ ns : List Int, intsOf (ns.map D.int) = some ns
  | [] => rfl
  | n :: ns => by simp [intsOf, intsOf_map ns]
theorem intsOf_ok : ∀ {ds : List D} {ns : List Int}, intsOf ds = some ns → ds = ns.map D.int
  | [], ns, h => by cases h; rfl
  | d :: ds, ns, h => by
    cases d with
    | int b =>
      have h' : (intsOf ds).map (b :: ·) = some ns := h
      cases e : intsOf ds with
      | none => rw [e] at h'; cases h'
      | some cs => rw [e] at h'; cases h'; rw [intsOf_ok e]; rfl
    | _ => cases h
def sumG : DG := fun ds M Q => match ds with
  | [.ref a] => match (seqOf M a).bind intsOf with
    | some ns => Q (.int ns.sum) M
    | none => False
  | _ => False
theorem call_sumG (hc : X.calm = true) : CallR X (.builtin "sum") (liftC X.K sumG) := CallRimp (cr_sum hc) fun xs H Q ⟨ds, M, Qd, q, r, hr, k⟩ => by
  unfold sumG at q
  split at q
  · obtain ⟨v, rfl, rv⟩ := r.one
    split at q
    · rename_i ns e
      obtain ⟨zs, e1, e2⟩ := Option.bind_eq_some_iff.mp e
      obtain ⟨vs, s, l⟩ := seqOf_ok hr e1
      rw [intsOf_ok e2] at l
      rw [l.ints] at s
      exact ⟨_, ns, by rw [rv.toRef], s, k _ M _ H q .refl (.int _) hr⟩
    · exact q.elim
  · exact q.elim
/-! ### range(i, j, -1), zip -/
variable {tg : Expr} {ta : DA}
def dRngD (ta : DA) : DI := fun τ M Q E => ta τ M (fun ds M1 => match ds with
  | [.int i, .int j, .int c] => c = -1 ∧ (-(2 ^ 62) ≤ i ∧ i < 2 ^ 62 ∧ -(2 ^ 62) ≤ j ∧ j < 2 ^ 62) ∧ i - j ≤ 16777216 ∧ Q ((List.range (i - j).toNat).map fun k => D.int (i - (k : Nat))) (fun _ => True) M1
  | _ => False) E
theorem RpL.three {K : PySem.W.Frag} {H : Hp} {vs : List V} {d d' d2 : D} (h : RpL K H vs [d, d', d2]) : ∃ v v' v2, vs = [v, v', v2] ∧ Rp K H v d ∧ Rp K H v' d' ∧ Rp K H v2 d2 := by
  cases h with
  | cons r l => obtain ⟨v, v', rfl, q⟩ := l.two; exact ⟨_, _, _, rfl, r, q⟩
theorem itOk_down {K : PySem.W.Frag} {H : Hp} {hi : Int} {n : Nat} (hz : n ≤ sizeLine) : ItOk K H (Itc hi (-1) n) ((List.range n).map fun i => D.int (hi - (i : Nat))) fun _ => True where
  small := by simpa using hz
  go := fun i H1 M e _ _ hi => show i < n by simpa using hi
  stop := fun i H1 M e _ _ hi => show n ≤ i by simpa using hi
  yld := fun i H1 M x H2 e _ _ y => by
    obtain ⟨rfl, rfl⟩ := y
    refine ⟨.refl, fun _ h => h, fun d hd => ?_⟩
    obtain ⟨_, rfl⟩ := rng_at hd
    have e : hi + ((i : Nat) : Int) * (-1) = hi - ((i : Nat) : Int) := by omega
    rw [e]
    exact .int _
theorem pid_rngD {a b c : Expr} (hg : Gl X "range") (hm : X.mg "range" = none) (ha : PAD X W [a, b, c] ta)
    (hs : starEach [a, b, c] X.env = (false, eval a X.env) :: starEach [b, c] X.env := by rfl) (hpl : (backTo pos (starEach [b, c] X.env)).any (·.1) = false := by rfl) : PID X W tg (.Call (.Name "range" p) [a, b, c] [] pos) (dRngD ta) :=
  ⟨PIimp (pi_range3 hg hm ha.run hs hpl) fun σ H R ⟨τ, M, Qd, Ed, hs, hr, q, we, k⟩ => ⟨τ, M, _, Ed, hs, hr, q, we, fun ds M1 vs H1 q1 e1 r1 h1 => by
    split at q1
    · rename_i i j c
      obtain ⟨v, v', v2, rfl, rv, rv', rv2⟩ := r1.three
      obtain ⟨rfl, c1, c2, q1⟩ := q1
      refine ⟨i, j, -1, (i - j).toNat, by rw [rv.toInt, rv'.toInt, rv2.toInt], RgC.neg c1.1 c1.2.1 c1.2.2.1 c1.2.2.2, k _ _ _ M1 H1 q1 e1 h1 (itOk_down (by rw [sizeLine_eq]; omega))⟩
    · exact q1.elim⟩⟩
end
end DL

set_option maxHeartbeats 4000000
namespace DLdict
open PySem
section
variable {prog : Program} {w : World} {K : Type} [DecidableEq K] {kd : KeyKind prog w K} {A : Around} {E : Value → Shared → Prop} {s : Shared}
/-- one pair is put, without the rules of d[k] = v -/
theorem put_pairs {a : Addr} {ps : List (K × Value)} {k : K} {kv v : Value} {Q : Unit → Shared → Prop} (hk : kd.is k kv = true) (hm : s.heap.DictOf kd a ps) (hz : ps.length ≤ sizeLine)
    (hQ : ∀ h', h'.DictOf kd a (stored ps k v) → Heap.SameBut a s.heap h' → Q () { s with heap := h' }) : wpAny (model prog w) A (dictPut a (kd.hash k) kv v) Q E s := by
  obtain ⟨ob, en, epo, g1, g2, g3, g4, g5, g6⟩ := hm
  have hen : en.size ≤ sizeLine := by
    have e1 := g5.length
    rw [Array.length_toList] at e1
    omega
  unfold dictPut
  refine wpAny_bind (wpAny_dictFind_of hk g1 g3 g4 ?_)
  have same : (en.findIdx? fun e => kd.is k e.key) = ps.findIdx? fun q => decide (q.1 = k) := by
    rw [← g5.findIdx k]
    obtain ⟨l⟩ := en
    simp
  cases hi : en.findIdx? fun e => kd.is k e.key with
  | some i =>
    have yes := any_of_findIdx_some (same ▸ hi)
    refine wpAny_updateDict g1 g3 (hQ _ ⟨_, _, epo, Heap.get?_update_self _ g1 (Obj.isFreed_of_dict (Obj.data_mapDict g3 _)), g2.mapDict _, Obj.data_mapDict g3 _, g4.modify _ _, ?_, ?_⟩ (Heap.SameBut.update ..))
    · have at_ : (en.toList.findIdx? fun e => kd.is k e.key) = some i := by
        rw [← hi]
        obtain ⟨l⟩ := en
        simp
      have r := g5.modify g6 at_ v
      rw [stored, if_pos yes]
      obtain ⟨l⟩ := en
      simpa using r
    · rw [stored, if_pos yes, keys_map_store]
      exact g6
  | none =>
    have out : k ∉ ps.map (·.1) := not_mem_of_findIdx_none (same ▸ hi)
    have no : ¬ (ps.any fun q => decide (q.1 = k)) = true := fun h => by
      obtain ⟨q, hq, e⟩ := List.any_eq_true.mp h
      exact out (List.mem_map.mpr ⟨q, hq, of_decide_eq_true e⟩)
    refine wpAny_updateDictKeys (hz := hen) g1 g3 (hQ _ ⟨_, _, epo + 1, Heap.get?_update_self _ g1 (Obj.isFreed_of_dict (Obj.data_mapDictKeys g3 _)), g2.mapDictKeys _, Obj.data_mapDictKeys g3 _, g4.push hk _, ?_, ?_⟩ (Heap.SameBut.update ..))
    · have r := g5.append hk (kd.hash k) v
      rw [stored, if_neg no]
      obtain ⟨l⟩ := en
      simpa using r
    · rw [stored, if_neg no, List.map_append]
      refine List.nodup_append.mpr ⟨g6, by simp, fun x hx y hy e => ?_⟩
      have : y = k := by simpa using hy
      subst this
      exact out (e ▸ hx)
/-- what {**o} does with a plain dict o -/
theorem merge_map {a o : Addr} {ps more : List (K × Value)} {Q : Unit → Shared → Prop} (hao : a ≠ o) (hoS : (o == sysModules) = false) (flat : ∀ (k : K) (v : Value), kd.is k v = true → ∀ b, v ≠ .ref b)
    (hd : s.heap.DictOf kd a ps) (ho : s.heap.DictOf kd o more) (hz : ps.length + more.length ≤ sizeLine)
    (hQ : ∀ h', h'.DictOf kd a (merged ps more) → h'.DictOf kd o more → Heap.SameBut a s.heap h' → Q () { s with heap := h' }) : wpAny (model prog w) A (mergeMapping a (.ref o) false) Q E s := by
  obtain ⟨od, ed, pd, d1, d2, d3, d4, d5, d6⟩ := id hd
  obtain ⟨oo, eo, po, o1, o2, o3, o4, o5, o6⟩ := id ho
  have hlen : more.length = eo.size := by rw [← o5.length, Array.length_toList]
  have hty := ho.typeIs
  unfold mergeMapping
  refine wpAny_bind (wpAny_isInstance hty F.sub_dict_dict ?_)
  dsimp only
  rw [if_pos rfl]
  refine wpAny_bind (wpAny_specialOf hty F.slot_dict_iter.lookup (wpAny_bind (wpAny_pure ?_)))
  have ey : ((some (Value.builtin "dict.__iter__") : Option Value) == some (.builtin "dict.__iter__")) = true := by simp
  rw [ey]
  dsimp only
  rw [if_neg (by rw [hoS]; exact Bool.false_ne_true)]
  refine wpAny_bind (wpAny_dictEntries d1 d3 ?_)
  have loop : wpAny (model prog w) A (do
      let en ← dictEntries o
      let epo ← dictEpoch o
      forIn (List.range en.size) PUnit.unit fun i (_ : PUnit) => (do
        let en2 ← dictEntries o
        match en2[i]? with
        | some e => do
          holding [e.key, e.val] (dictPut a e.hash e.key e.val)
          let epo2 ← dictEpoch o
          if (epo2 != epo) = true then do
              (unsupported "dict.changed-during-merge" : Sem PUnit)
              pure (ForInStep.yield PUnit.unit)
            else pure (ForInStep.yield PUnit.unit)
        | _ => do
          (unsupported "dict.changed-during-merge" : Sem PUnit)
          pure (ForInStep.yield PUnit.unit) : Sem (ForInStep PUnit))
      pure ()) Q E s := by
    refine wpAny_bind (wpAny_dictEntries o1 o3 ?_)
    refine wpAny_bind (wpAny_dictEpoch o1 o3 ?_)
    refine wpAny_bind ?_
    rw [List.range_eq_range']
    refine wpAny_forIn_list _ (fun rest _ s' => ∃ h' i, s' = { s with heap := h' } ∧ rest = List.range' i (eo.size - i) ∧ i ≤ eo.size ∧ h'.DictOf kd a (merged ps (more.take i)) ∧ h'.get? o = some oo ∧ Heap.SameBut a s.heap h')
      _ ?_ ?_ _ _ ⟨s.heap, 0, rfl, by simp, Nat.zero_le _, by simpa [merged] using hd, o1, Heap.SameBut.refl _ _⟩
    · rintro x rest b s' ⟨h', i, rfl, hr, hi, hd', hoo', hs'⟩
      have hlt : i < eo.size := by
        by_cases c : i < eo.size
        · exact c
        · have e0 : eo.size - i = 0 := by omega
          rw [e0] at hr
          cases hr
      have step : eo.size - i = (eo.size - (i + 1)) + 1 := by omega
      rw [step, List.range'_succ] at hr
      injection hr with hx hrest
      subst hx
      refine wpAny_bind (wpAny_dictEntries hoo' o3 ?_)
      rw [Array.getElem?_eq_getElem hlt]
      obtain ⟨⟨k, v⟩, hkv⟩ : ∃ q, more[x]? = some q := ⟨more[x]'(by rw [hlen]; exact hlt), List.getElem?_eq_getElem _⟩
      obtain ⟨hkey, hval⟩ := o5.get? (e := eo[x]) (by simp [hlt]) hkv
      obtain ⟨k', hkey', hhash⟩ := o4 eo[x] (Array.getElem_mem hlt)
      obtain rfl : k' = k := kd.inj _ _ _ hkey' hkey
      show wpAny _ _ (holding [eo[x].key, eo[x].val] (dictPut a eo[x].hash eo[x].key eo[x].val) >>= _) _ _ _
      rw [hhash, hval]
      have hmx : (merged ps (more.take x)).length ≤ sizeLine := by
        have e1 := merged_length_le ps (more.take x)
        rw [List.length_take] at e1
        omega
      refine wpAny_bind (wpAny_holding (put_pairs hkey hd' hmx fun h2 hd2 hs2 => ?_))
      have hoo2 : h2.get? o = some oo := (hs2.2 o (Ne.symm hao)).trans hoo'
      refine wpAny_bind (wpAny_dictEpoch hoo2 o3 ?_)
      rw [if_neg (by simp)]
      exact wpAny_pure ⟨h2, x + 1, rfl, hrest, hlt, by rw [merged_take_succ ps more x (k', v) hkv]; exact hd2, hoo2, hs'.trans hs2⟩
    · rintro b s' ⟨h', i, rfl, hr, hi, hd', hoo', hs'⟩
      have hin : i = eo.size := by
        by_cases c : i < eo.size
        · have step : eo.size - i = (eo.size - (i + 1)) + 1 := by omega
          rw [step, List.range'_succ] at hr
          cases hr
        · omega
      refine wpAny_pure (hQ h' ?_ ⟨oo, eo, po, hoo', o2, o3, o4, o5, o6⟩ hs')
      rw [hin, ← hlen, List.take_length] at hd'
      exact hd'
  split
  · refine wpAny_bind (wpAny_dictEntries o1 o3 ?_)
    refine wpAny_bind ?_
    have still : (forIn eo PUnit.unit fun e (_ : PUnit) => (match e.key with
        | Value.ref b => do
          let r ← specialOf e.key (Str.ofString "__eq__")
          if (r != some (Value.builtin "object.__eq__")) = true then
            if (Array.filter (fun x => x.hash == e.hash) eo).size > 1 then do
              (unsupported "dict.merge-into-an-empty-dict:keys-of-equal-hash" : Sem PUnit)
              pure (ForInStep.yield PUnit.unit)
            else pure (ForInStep.yield PUnit.unit)
          else pure (ForInStep.yield PUnit.unit)
        | _ => pure (ForInStep.yield PUnit.unit) : Sem (ForInStep PUnit))) = pure PUnit.unit := by
      rw [← Array.forIn_toList]
      refine forIn_yield_id _ fun e he c => ?_
      obtain ⟨k, hkey, _⟩ := o4 e (Array.mem_toList_iff.mp he)
      have nr := flat k _ hkey
      cases e2 : e.key with
      | ref b => exact absurd e2 (nr b)
      | _ => rfl
    exact wpAny_of_eq still loop
  · exact loop
end
end DLdict

set_option maxHeartbeats 4000000
namespace DLdict
open PySem L2
section
variable {prog : Program} {w : World} {K : Type} [DecidableEq K] {kd : KeyKind prog w K} {A : Around} {E : Value → Shared → Prop} {s : Shared}
/-- {**e, k: v} -/
theorem star_display {te tk tv : Sem Value} {Q : Value → Shared → Prop} (flat : ∀ (k : K) (v : Value), kd.is k v = true → ∀ b, v ≠ .ref b)
    (h : wpAny (model prog w) A te (fun m s1 => ∃ (o : Addr) (kvs : List (K × Value)), m = .ref o ∧ s.heap.objs.size ≠ o ∧ (o == sysModules) = false ∧ s1.heap.DictOf kd s.heap.objs.size [] ∧ s1.heap.DictOf kd o kvs ∧ kvs.length ≤ 100000 ∧
      ∀ h2, h2.DictOf kd s.heap.objs.size (merged [] kvs) → Heap.SameBut s.heap.objs.size s1.heap h2 →
        wpAny (model prog w) A (evalPairs [(tk, tv)]) (fun vs s3 => ∃ prs xs : List (K × Value), prs.length ≤ 1 ∧ xs.length ≤ 100000 ∧ Carries kd vs prs ∧ s3.heap.DictOf kd h2.objs.size [] ∧ s3.heap.DictOf kd s.heap.objs.size xs ∧ s.heap.objs.size ≠ h2.objs.size ∧ (h2.objs.size == sysModules) = false ∧
          ∀ h4 h5, h4.DictOf kd h2.objs.size (merged [] prs) → Heap.SameBut h2.objs.size s3.heap h4 → h5.DictOf kd s.heap.objs.size (merged xs (merged [] prs)) → h5.DictOf kd h2.objs.size (merged [] prs) → Heap.SameBut s.heap.objs.size h4 h5 →
            Q (.ref s.heap.objs.size) { s3 with heap := h5, toks := s3.toks + vs.length }) E { s1 with heap := h2.push { cls := .type "dict", data := .dict #[] } }) E
      { s with heap := s.heap.push { cls := .type "dict", data := .dict #[] } }) : wpAny (model prog w) A (dictDisplay [(none, te), (some tk, tv)]) Q E s := by
  unfold dictDisplay
  simp only [List.forIn_cons, List.forIn_nil, List.isEmpty_nil, if_true, pure_bind, List.nil_append, List.length_singleton, bind_assoc, Nat.reduceBEq, Bool.false_eq_true, if_false, List.isEmpty_cons]
  refine wpAny_bind (wpAny_alloc ?_)
  refine wpAny_bind (wpAny_holding (wpAny_mono h (fun m s1 h1 => ?_) fun _ _ e => e))
  obtain ⟨o, kvs, rfl, hne, hoS, dn, dk, hz, h1⟩ := h1
  refine wpAny_bind (wpAny_onRaise (wpAny_tryCatch (wpAny_onRaise (wpAny_holding (merge_map hne hoS flat dn dk (by rw [List.length_nil, sizeLine_eq]; omega) fun h2 m2 k2 sb2 => ?_)))))
  refine wpAny_bind (wpAny_holding (wpAny_subDict (knd := kd) (by show 1 ≤ 15; omega) (wpAny_mono (h1 h2 m2 sb2) (fun vs s3 q3 => ?_) fun _ _ e => e)))
  obtain ⟨prs, xs, hv1, hx1, hc, e0, e1, hn2, hS2, fin⟩ := q3
  refine ⟨prs, hc, e0, fun h4 m4 sb4 => ?_⟩
  have hl1 := merged_length_le ([] : List (K × Value)) kvs
  have hl2 := merged_length_le ([] : List (K × Value)) prs
  rw [List.length_nil] at hl1 hl2
  refine wpAny_bind (wpAny_onRaise (wpAny_holding (merge_map (more := merged [] prs) hn2 hS2 flat (e1.sameBut sb4 hn2) m4 (by rw [sizeLine_eq]; omega) fun h5 m5 k5 sb5 => ?_)))
  refine wpAny_pure ?_
  exact fin h4 h5 m4 sb4 m5 k5 sb5
theorem mix_flat {prog : Program} {w : World} (k : Key) (v : Value) (h : (mixKind prog w).is k v = true) (b : Addr) : v ≠ .ref b := by
  rintro rfl
  rcases keyIs_shape h with ⟨i, t, _, e⟩ | ⟨x, t, _, e⟩ <;> cases e
/-- {**e, k: v}: p the new dict, q the one that holds k: v on its way -/
def tDStar (te tk tv : TE) : TE := fun σ H Q => ∀ p, H p = none → te σ (upd H p (.dK [])) fun x H1 => ∃ (o : Addr) (kvs : List (Key × V)), x = .ref o ∧ Rd H1 o (.dK kvs) ∧ p ≠ o ∧ H1 p = some (.dK []) ∧ kvs.length ≤ 100000 ∧
  ∀ q, upd H1 p (.dK (mergeK [] kvs)) q = none → tk σ (upd (upd H1 p (.dK (mergeK [] kvs))) q (.dK [])) fun y H2 => tv σ H2 fun z H3 => ∃ k ws, y = kV k ∧ H3 q = some (.dK []) ∧ H3 p = some (.dK ws) ∧ ws.length ≤ 100000 ∧ p ≠ q ∧
    Q (.ref p) (upd (upd H3 q (.dK [(k, z)])) p (.dK (putK ws k z)))
theorem pe_dstar {X : Cx} {e k v : Expr} {te tk tv : TE} {pos : Pos} (he : PE X e te) (hk : PE X k tk) (hv : PE X v tv) : PE X (.Dict [none, some k] [e, v] pos) (tDStar te tk tv) := by
  refine ⟨fun pins s σ H Q I hq => ?_⟩
  have hn := I.hok.fresh (Nat.le_refl s.heap.objs.size)
  have I1 := I.laid (a := s.heap.objs.size) (o := .dK []) (h' := s.heap.push { cls := .type "dict", data := .dict #[] }) (t' := s.toks) (fun _ _ z => Heap.get?_push_of_some _ z) (Nat.le_refl _) (dk_empty s.heap I.big)
  rw [arm_eval_Dict]
  refine wpAny_bind (wpAny_standAt (star_display (kd := mixKind X.prog X.w) (fun k v h b => mix_flat k v h b) (te := do let x ← eval e X.env; standAt pos; pure x) (tk := eval k X.env) (tv := do let x ← eval v X.env; standAt pos; pure x) ?_))
  refine wpAny_bind (thn (he.run pins _ σ _ _ I1 (hq _ hn)) fun u s1 ⟨x, H1, I2, rx, o, kvs, ex, rd, hpo, h0, hz, q1⟩ => wpAny_bind (wpAny_standAt (wpAny_pure ?_)))
  subst ex
  obtain rfl : u = Value.ref o := rx
  obtain ⟨z1, hoS, vs, rel, dd⟩ := dk_rd I2.hok rd
  obtain ⟨z0, hpS, vs0, rel0, dd0⟩ := dk_of I2.hok h0
  cases rel0
  refine ⟨o, vs, rfl, hpo, hoS, dd0, dd, by rw [← rel.length]; exact hz, fun h2 m2 sb2 => ?_⟩
  have zl : (mergeK [] kvs).length ≤ sizeLine := by
    have := length_mergeK kvs []
    rw [List.length_nil] at this
    rw [sizeLine_eq]; omega
  have ex2 : ∃ c, h2.get? s.heap.objs.size = some c := let ⟨c, _, _, hc, _⟩ := m2; ⟨c, hc⟩
  have I3 := d_write (t' := s1.toks) I2 (by rw [h0]; exact True.intro) sb2 ex2 (dk_new zl hpS (rel.merge .nil) m2)
  have hn3 := I3.hok.fresh (Nat.le_refl h2.objs.size)
  have I4 := I3.laid (a := h2.objs.size) (o := .dK []) (h' := h2.push { cls := .type "dict", data := .dict #[] }) (t' := s1.toks) (fun _ _ z => Heap.get?_push_of_some _ z) (Nat.le_refl _) (dk_empty h2 I3.big)
  refine thn ((pps_cons (pos := pos) hk hv pps_nil).run pins _ σ _ (fun ps H3 => match ps with
    | [(y, z)] => ∃ k ws, y = kV k ∧ H3 h2.objs.size = some (.dK []) ∧ H3 s.heap.objs.size = some (.dK ws) ∧ ws.length ≤ 100000 ∧ s.heap.objs.size ≠ h2.objs.size ∧
      Q (.ref s.heap.objs.size) (upd (upd H3 h2.objs.size (.dK [(k, z)])) s.heap.objs.size (.dK (putK ws k z)))
    | _ => False) I4 (q1 _ hn3)) fun ws s3 ⟨ps, H3, I5, rv, q5⟩ => ?_
  have one : ∃ y z, ps = [(y, z)] := by
    split at q5
    · exact ⟨_, _, rfl⟩
    · exact q5.elim
  obtain ⟨y, z, rfl⟩ := one
  obtain ⟨kk, wk, rfl, hq3, hp3, lwk, npq, fin⟩ := q5
  obtain ⟨prs, c, rk⟩ := carries_of (P := X.prog) (w := X.w) (kvs := [(kk, z)]) rv
  obtain ⟨y0, hqS, w0, r0, dq⟩ := dk_of I5.hok hq3
  cases r0
  obtain ⟨y1, _, w1, r1, dp⟩ := dk_of I5.hok hp3
  have lp : prs.length ≤ 1 := by rw [← rk.length]; exact Nat.le_refl 1
  have lw : w1.length ≤ 100000 := by rw [← r1.length]; exact lwk
  refine ⟨prs, w1, lp, lw, c, dq, dp, npq, hqS, fun h4 h5 m4 sb4 m5 k5 sb5 => ?_⟩
  have ex4 : ∃ c, h4.get? h2.objs.size = some c := let ⟨c, _, _, hc, _⟩ := m4; ⟨c, hc⟩
  have ex5 : ∃ c, h5.get? s.heap.objs.size = some c := let ⟨c, _, _, hc, _⟩ := m5; ⟨c, hc⟩
  have I6 := d_write (t' := s3.toks) I5 (by rw [hq3]; exact True.intro) sb4 ex4 (dk_new (kvs := mergeK [] [(kk, z)]) (by rw [sizeLine_eq]; have := length_mergeK [(kk, z)] []; simp at this; omega) hqS (rk.merge .nil) m4)
  have eo : upd H3 h2.objs.size (.dK (mergeK [] [(kk, z)])) s.heap.objs.size = some (.dK wk) := by rw [upd_ne npq]; exact hp3
  have I7 := d_write (t' := s3.toks + ws.length) I6 (by rw [eo]; exact True.intro) sb5 ex5 (dk_new (kvs := mergeK wk (mergeK [] [(kk, z)])) (by
    have h1 := length_mergeK (mergeK [] [(kk, z)]) wk
    have h2 := length_mergeK [(kk, z)] []
    rw [List.length_nil] at h2
    rw [List.length_singleton] at h2
    rw [sizeLine_eq]
    omega) hpS ((rk.merge .nil).merge r1) m5)
  exact ⟨.ref s.heap.objs.size, _, I7, rfl, fin⟩
end
end DLdict

set_option maxHeartbeats 4000000
namespace DLdict
open PySem L2
/-! ### d.copy() -/
def rCopy : V → List V → Hp → VK → Prop := fun x xs H Q => ∃ (a : Addr) (kvs : List (Key × V)), x = .ref a ∧ xs = [] ∧ H a = some (.dK kvs) ∧ ∀ p, H p = none → Q (.ref p) (upd H p (.dK kvs))
theorem mt_copy {X : Cx} : MtR X "dict.copy" rCopy := by
  intro pins s σ H x xs v us Q I rx rs ⟨a, kvs, ex, es, ha, q⟩
  subst ex; subst es
  cases rs
  obtain rfl : v = Value.ref a := rx
  obtain ⟨z, hS, vs, rel, dd⟩ := dk_of I.hok ha
  refine call_meetsIn PySem.F.slot_dict_copy dd.typeIs PySem.F.entry_dict_copy (PySem.F.args_dict_copy_1 _) (meets_dict_copy (mixKind X.prog X.w) a hS) ⟨vs, dd, by rw [← rel.length]; exact z, fun h' n1 n2 k => ?_⟩
  have hn := I.hok.fresh (Nat.le_refl s.heap.objs.size)
  have hp : (s.heap.objs.size == sysModules) = false := beq_eq_false_iff_ne.mpr (Ne.symm (Nat.ne_of_lt I.big))
  exact ⟨.ref s.heap.objs.size, _, I.laid (a := s.heap.objs.size) (o := .dK kvs) (t' := s.toks) k (Nat.le_refl _) (dk_new z hp rel n1), rfl, q _ hn⟩
end DLdict
namespace DL
open PySem PySem.Spec L2
/-! ### dicts whose keys are ints or texts -/
def keyD : D → Option Key
  | .int i => some (.inl i)
  | .str x => some (.inr x)
  | _ => none
theorem keyD_ok {K : PySem.W.Frag} {H : Hp} {v : V} {d : D} {k : Key} (r : Rp K H v d) (h : keyD d = some k) : v = kV k := by
  cases d with
  | int i => cases h; exact r.toInt
  | str x => cases h; exact r.toStr
  | _ => cases h
def valD (kvs : List (Key × D)) (k : Key) : Option D := (kvs.find? fun q => decide (q.1 = k)).map (·.2)
def putKD (kvs : List (Key × D)) (k : Key) (d : D) : List (Key × D) := if (kvs.any fun q => decide (q.1 = k)) = true then kvs.map (fun q => if q.1 = k then (q.1, d) else q) else kvs ++ [(k, d)]
def mergeKD (kvs more : List (Key × D)) : List (Key × D) := more.foldl (fun acc q => putKD acc q.1 q.2) kvs
section
variable {K : PySem.W.Frag} {H : Hp}
theorem KD.length : ∀ {vs : List (Key × V)} {ds : List (Key × D)}, KD K H vs ds → vs.length = ds.length
  | [], [], _ => rfl
  | _ :: _, _ :: _, h => by simp [KD.length h.2.2]
  | [], _ :: _, h => h.elim
  | _ :: _, [], h => h.elim
theorem KD.any {k : Key} : ∀ {vs : List (Key × V)} {ds : List (Key × D)}, KD K H vs ds → (vs.any fun q => decide (q.1 = k)) = ds.any fun q => decide (q.1 = k)
  | [], [], _ => rfl
  | p :: _, q :: _, h => by rw [List.any_cons, List.any_cons, KD.any h.2.2, h.1]
  | [], _ :: _, h => h.elim
  | _ :: _, [], h => h.elim
theorem KD.get {k : Key} : ∀ {vs : List (Key × V)} {ds : List (Key × D)}, KD K H vs ds → ∀ d, valD ds k = some d → ∃ v, valV vs k = some v ∧ Rp K H v d
  | [], [], _, d, e => by cases e
  | p :: ps, q :: qs, h, d, e => by
    by_cases c : q.1 = k
    · have e' : some q.2 = some d := by simpa [valD, List.find?_cons, c] using e
      cases e'
      exact ⟨p.2, valV_pos (h.1.trans c), h.2.1⟩
    · have e' : valD qs k = some d := by simpa [valD, List.find?_cons, c] using e
      obtain ⟨v, e1, r⟩ := KD.get h.2.2 d e'
      exact ⟨v, by rw [valV_neg (fun z => c (h.1.symm.trans z))]; exact e1, r⟩
  | [], _ :: _, h, _, _ => h.elim
  | _ :: _, [], h, _, _ => h.elim
theorem KD.got {k : Key} : ∀ {vs : List (Key × V)} {ds : List (Key × D)}, KD K H vs ds → (valV vs k).isSome = (valD ds k).isSome
  | [], [], _ => rfl
  | p :: ps, q :: qs, h => by
    by_cases c : q.1 = k
    · have e' : valD (q :: qs) k = some q.2 := by simp [valD, List.find?_cons, c]
      rw [valV_pos (h.1.trans c), e']
      rfl
    · have e' : valD (q :: qs) k = valD qs k := by simp [valD, List.find?_cons, c]
      rw [valV_neg (fun z => c (h.1.symm.trans z)), e']
      exact KD.got h.2.2
  | [], _ :: _, h => h.elim
  | _ :: _, [], h => h.elim
theorem KD.over {k : Key} {v : V} {d : D} (r : Rp K H v d) : ∀ {vs : List (Key × V)} {ds : List (Key × D)}, KD K H vs ds → KD K H (vs.map fun q => if q.1 = k then (q.1, v) else q) (ds.map fun q => if q.1 = k then (q.1, d) else q)
  | [], [], _ => True.intro
  | p :: _, q :: _, h => by
    rw [List.map_cons, List.map_cons]
    by_cases c : q.1 = k
    · rw [if_pos c, if_pos (h.1.trans c)]
      exact ⟨h.1, r, KD.over r h.2.2⟩
    · rw [if_neg c, if_neg (fun z => c (h.1.symm.trans z))]
      exact ⟨h.1, h.2.1, KD.over r h.2.2⟩
  | [], _ :: _, h => h.elim
  | _ :: _, [], h => h.elim
theorem KD.snoc {k : Key} {v : V} {d : D} (r : Rp K H v d) : ∀ {vs : List (Key × V)} {ds : List (Key × D)}, KD K H vs ds → KD K H (vs ++ [(k, v)]) (ds ++ [(k, d)])
  | [], [], _ => ⟨rfl, r, True.intro⟩
  | p :: _, q :: _, h => ⟨h.1, h.2.1, KD.snoc r h.2.2⟩
  | [], _ :: _, h => h.elim
  | _ :: _, [], h => h.elim
theorem KD.put {k : Key} {v : V} {d : D} (r : Rp K H v d) {vs : List (Key × V)} {ds : List (Key × D)} (h : KD K H vs ds) : KD K H (putK vs k v) (putKD ds k d) := by
  unfold putK putKD
  rw [h.any]
  split
  · exact h.over r
  · exact h.snoc r
theorem KD.merge : ∀ {more : List (Key × V)} {moreD : List (Key × D)} {vs : List (Key × V)} {ds : List (Key × D)}, KD K H more moreD → KD K H vs ds → KD K H (mergeK vs more) (mergeKD ds moreD)
  | [], [], _, _, _, h => h
  | p :: ps, q :: qs, vs, ds, m, h => by
    have e : KD K H (putK vs p.1 p.2) (putKD ds q.1 q.2) := by
      rw [m.1]
      exact h.put m.2.1
    exact KD.merge (more := ps) (moreD := qs) m.2.2 e
  | [], _ :: _, _, _, m, _ => m.elim
  | _ :: _, [], _, _, m, _ => m.elim
/-- a dict is new, or written anew -/
theorem KC.dict {M : Mp} {Qd : DK} {Q : VK} {vs : List (Key × V)} {ds : List (Key × D)} {p : Addr} (k : KC K H Qd Q) (hr : HR K H M) (l : KD K H vs ds) (hp : H p = none) (q : ∀ p, M p = none → Qd (.ref p) (put M p (.dk ds))) : Q (.ref p) (upd H p (.dK vs)) :=
  k _ _ _ _ (q p (hr.free hp)) (.new hp) (.ref p) (hr.made (noTup_none hp) ⟨vs, upd_same, l.mono (.new hp)⟩)
theorem HR.dictAt {M : Mp} {a : Addr} {vs vs' : List (Key × V)} {ds' : List (Key × D)} (hr : HR K H M) (hv : H a = some (.dK vs)) (l : KD K H vs' ds') : TExt K H (upd H a (.dK vs')) ∧ HR K (upd H a (.dK vs')) (DL.put M a (.dk ds')) := by
  have e : TExt K H (upd H a (.dK vs')) := .upd (noTup_dK hv)
  exact ⟨e, hr.made (noTup_dK hv) ⟨vs', upd_same, l.mono e⟩⟩
end
section
variable {X : Cx} {W : DW} {pos p : Pos} {o e i k v f : Expr} {td ty te tk tv tx : DE}
def dDNew : DE := fun _ M Q _ => ∀ p, M p = none → Q (.ref p) (put M p (.dk []))
theorem pd_dnew : PD X W (.Dict [] [] pos) dDNew := ⟨PEimp pe_dnewK fun σ H Q ⟨τ, M, Qd, Ed, hs, hr, q, we, kk⟩ p hp => kk.dict hr (vs := []) (ds := []) True.intro hp q⟩
/-- the dict at d -/
def dictOf (d : D) (M : Mp) : Option (List (Key × D)) := match d with
  | .ref a => match M a with
    | some (.dk kvs) => some kvs
    | _ => none
  | _ => none
theorem dictOf_ok {K : PySem.W.Frag} {H : Hp} {M : Mp} {x : V} {d : D} {kvs : List (Key × D)} (r : Rp K H x d) (hr : HR K H M) (h : dictOf d M = some kvs) : ∃ a vs, x = .ref a ∧ d = .ref a ∧ M a = some (.dk kvs) ∧ H a = some (.dK vs) ∧ KD K H vs kvs := by
  cases d with
  | ref a =>
    have h' : (match M a with | some (.dk kvs) => some kvs | _ => none) = some kvs := h
    cases e : M a with
    | none => rw [e] at h'; cases h'
    | some ob =>
      rw [e] at h'
      cases ob with
      | dk xs => cases h'; obtain ⟨vs, q, l⟩ := hr.dk e; exact ⟨a, vs, r.toRef, rfl, e, q, l⟩
      | _ => cases h'
  | _ => cases h
/-- a dict that is read -/
def dictRd (d : D) (M : Mp) : Option (List (Key × D)) := match d with
  | .ref a => match M a with
    | some (.dk kvs) => some kvs
    | some (.rdk kvs) => some kvs
    | _ => none
  | _ => none
theorem dictRd_ok {K : PySem.W.Frag} {H : Hp} {M : Mp} {x : V} {d : D} {kvs : List (Key × D)} (r : Rp K H x d) (hr : HR K H M) (h : dictRd d M = some kvs) : ∃ a vs, x = .ref a ∧ d = .ref a ∧ Rd H a (.dK vs) ∧ KD K H vs kvs := by
  cases d with
  | ref a =>
    have h' : (match M a with | some (.dk kvs) => some kvs | some (.rdk kvs) => some kvs | _ => none) = some kvs := h
    cases e : M a with
    | none => rw [e] at h'; cases h'
    | some ob =>
      rw [e] at h'
      cases ob with
      | dk xs => cases h'; obtain ⟨vs, q, l⟩ := hr.dk e; exact ⟨a, vs, r.toRef, rfl, .inl q, l⟩
      | rdk xs => cases h'; obtain ⟨o, vs, q, l⟩ : ∃ o vs, H a = some (.frz o (.dK vs)) ∧ KD K H vs kvs := hr a _ e; exact ⟨a, vs, r.toRef, rfl, .inr ⟨o, q⟩, l⟩
      | _ => cases h'
  | _ => cases h
def dDGet (td ty : DE) : DE := fun τ M Q E => td τ M (fun x M1 => ty τ M1 (fun y M2 => match dictRd x M2, keyD y with
  | some kvs, some k => match valD kvs k with
    | some v => Q v M2
    | none => False
  | _, _ => False) E) E
theorem pd_dget (hu : X.A.units + 1 < cLine) (ho : PD X W o td) (hi : PD X W i ty) (hs : NoSl i) : PD X W (.Subscript o i pos) (dDGet td ty) :=
  ⟨PEimp (pe_dget hu ho.run hi.run hs) fun σ H Q ⟨τ, M, Qd, Ed, hs, hr, q, we, kk⟩ => ⟨τ, M, _, Ed, hs, hr, q, we, fun x M1 xv H1 q1 e1 r1 h1 => ⟨τ, M1, _, Ed, hs.mono e1, h1, q1, we, fun y M2 yv H2 q2 e2 r2 h2 => by
    dsimp only at q2
    split at q2
    · rename_i kvs k ed ek
      split at q2
      · rename_i w ew
        obtain ⟨a, vs, rfl, rfl, hv, l⟩ := dictRd_ok (r1.mono e2) h2 ed
        obtain ⟨u, hu, ru⟩ := l.get _ ew
        exact ⟨a, u, rfl, .inl ⟨vs, k, hv, keyD_ok r2 ek, hu.symm⟩, kk _ M2 _ H2 q2 (e1.trans e2) ru h2⟩
      · exact q2.elim
    · exact q2.elim⟩⟩⟩
/-- y in d, y not in d -/
def dDIn (n : Bool) (ty td : DE) : DE := fun τ M Q E => ty τ M (fun y M1 => td τ M1 (fun x M2 => match dictRd x M2, keyD y with
  | some kvs, some k => Q (.bl (n != (valD kvs k).isSome)) M2
  | _, _ => False) E) E
theorem dDIn_read {K : PySem.W.Frag} {n : Bool} {σ : L2.St} {H : Hp} {Q : VK} (h : liftE K W (dDIn n ty td) σ H Q) : liftE K W ty σ H fun y H1 => liftE K W td σ H1 fun x H2 => ∃ (a : Addr) (ob : Option V), x = .ref a ∧ DGet H2 a y ob ∧ Q (.bl (n != ob.isSome)) H2 := by
  obtain ⟨τ, M, Qd, Ed, hs, hr, q, we, kk⟩ := h
  refine ⟨τ, M, _, Ed, hs, hr, q, we, fun y M1 yv H1 q1 e1 r1 h1 => ⟨τ, M1, _, Ed, hs.mono e1, h1, q1, we, fun x M2 xv H2 q2 e2 r2 h2 => ?_⟩⟩
  dsimp only at q2
  split at q2
  · rename_i kvs k ed ek
    obtain ⟨a, vs, rfl, rfl, hv, l⟩ := dictRd_ok r2 h2 ed
    refine ⟨a, _, rfl, .inl ⟨vs, k, hv, keyD_ok (r1.mono e2) ek, rfl⟩, ?_⟩
    rw [l.got]
    exact kk _ M2 _ H2 q2 (e1.trans e2) (.bl _) h2
  · exact q2.elim
theorem pd_din (hu : X.A.units + 1 < cLine) (hi : PD X W i ty) (ho : PD X W o td) (hm : behindInMarks .In o = false := by with_unfolding_all rfl) : PD X W (.Compare i [.In] [o] pos) (dDIn false ty td) :=
  ⟨PEimp (pe_cmp (pc_din hu hi.run ho.run) hm) fun σ H Q h => by
    have := dDIn_read h
    simpa [tDIn] using this⟩
theorem pd_dnotin (hu : X.A.units + 1 < cLine) (hi : PD X W i ty) (ho : PD X W o td) (hm : behindInMarks .NotIn o = false := by with_unfolding_all rfl) : PD X W (.Compare i [.NotIn] [o] pos) (dDIn true ty td) :=
  ⟨PEimp (pe_cmp (pc_dnotin hu hi.run ho.run) hm) fun σ H Q h => by
    have := dDIn_read h
    simpa [tDNotIn] using this⟩
/-- {**e, k: v} -/
def dDStar (te tk tv : DE) : DE := fun τ M Q E => ∀ p, M p = none → te τ (put M p (.dk [])) (fun d M1 => match dictRd d M1 with
  | some kvs => d ≠ .ref p ∧ M1 p = some (.dk []) ∧ kvs.length ≤ 100000 ∧ ∀ q, put M1 p (.dk (mergeKD [] kvs)) q = none → tk τ (put (put M1 p (.dk (mergeKD [] kvs))) q (.dk [])) (fun y M2 => tv τ M2 (fun z M3 => match keyD y with
    | some k => M3 q = some (.dk []) ∧ M3 p = some (.dk (mergeKD [] kvs)) ∧ Q (.ref p) (put (put M3 q (.dk [(k, z)])) p (.dk (putKD (mergeKD [] kvs) k z)))
    | none => False) E) E
  | none => False) E
theorem pd_dstar (he : PD X W e te) (hk : PD X W k tk) (hv : PD X W v tv) : PD X W (.Dict [none, some k] [e, v] pos) (dDStar te tk tv) := by
  refine ⟨PEimp (DLdict.pe_dstar he.run hk.run hv.run) fun σ H Q ⟨τ, M, Qd, Ed, hs, hr, q, we, kk⟩ p hp => ?_⟩
  have e0 : TExt X.K H (upd H p (.dK [])) := .new hp
  have hr0 : HR X.K (upd H p (.dK [])) (put M p (.dk [])) := hr.made (noTup_none hp) ⟨[], upd_same, True.intro⟩
  refine ⟨τ, _, _, Ed, hs.mono e0, hr0, q p (hr.free hp), we, fun d M1 xv H1 q1 e1 r1 h1 => ?_⟩
  dsimp only at q1
  split at q1
  · rename_i kvs ed
    obtain ⟨a, vs, rfl, rfl, hv1, l⟩ := dictRd_ok r1 h1 ed
    obtain ⟨hne, hp1, hz, q1⟩ := q1
    obtain ⟨w0, hw0, l0⟩ := h1.dk hp1
    have : w0 = [] := List.length_eq_zero_iff.mp l0.length
    subst this
    have lm : KD X.K H1 (mergeK [] vs) (mergeKD [] kvs) := KD.merge l True.intro
    obtain ⟨e2, h2⟩ := HR.dictAt h1 hw0 lm
    refine ⟨a, vs, rfl, hv1, fun z => hne (by rw [z]), hw0, by rw [l.length]; exact hz, fun q hq => ?_⟩
    have npq : p ≠ q := by
      rintro rfl
      rw [upd_same] at hq
      cases hq
    have e3 : TExt X.K (upd H1 p (.dK (mergeK [] vs))) (upd (upd H1 p (.dK (mergeK [] vs))) q (.dK [])) := .new hq
    have h3 : HR X.K (upd (upd H1 p (.dK (mergeK [] vs))) q (.dK [])) (put (put M1 p (.dk (mergeKD [] kvs))) q (.dk [])) := h2.made (noTup_none hq) ⟨[], upd_same, True.intro⟩
    have e03 := ((e0.trans e1).trans e2).trans e3
    refine ⟨τ, _, _, Ed, hs.mono e03, h3, q1 q (h2.free hq), we, fun y M2 yv H4 q4 e4 r4 h4 => ⟨τ, M2, _, Ed, hs.mono (e03.trans e4), h4, q4, we, fun z M3 zv H5 q5 e5 r5 h5 => ?_⟩⟩
    dsimp only at q5
    split at q5
    · rename_i kx ek
      obtain ⟨c1, c2, q5⟩ := q5
      obtain ⟨w1, hw1, l1⟩ := h5.dk c1
      have : w1 = [] := List.length_eq_zero_iff.mp l1.length
      subst this
      obtain ⟨w2, hw2, l2⟩ := h5.dk c2
      have e05 := (e03.trans e4).trans e5
      have lw : w2.length ≤ 100000 := by
        have h6 := l2.length
        have h7 := lm.length
        have h8 := length_mergeK vs []
        have h9 := l.length
        rw [List.length_nil] at h8
        omega
      refine ⟨kx, w2, keyD_ok (r4.mono e5) ek, hw1, hw2, lw, npq, ?_⟩
      have l5 : KD X.K H5 [(kx, zv)] [(kx, z)] := ⟨rfl, r5, True.intro⟩
      obtain ⟨e6, h6⟩ := HR.dictAt h5 hw1 l5
      have hp6 : upd H5 q (.dK [(kx, zv)]) p = some (.dK w2) := by rw [upd_ne npq]; exact hw2
      obtain ⟨e7, h7⟩ := HR.dictAt h6 hp6 ((l2.mono e6).put (k := kx) (r5.mono e6))
      exact kk _ _ _ _ q5 ((e05.trans e6).trans e7) (.ref p) h7
    · exact q5.elim
  · exact q1.elim
end
end DL

set_option maxHeartbeats 4000000
namespace DL
open PySem PySem.Spec L2
/-! ### a dict that is walked stays as it is: it is read only meanwhile -/
section
variable {K : PySem.W.Frag} {H H' : Hp}
mutual
theorem Rp.monoT (e : ∀ a xs, SqT K H a xs → SqT K H' a xs) : ∀ {v : V} {d : D}, Rp K H v d → Rp K H' v d
  | _, _, .non => .non
  | _, _, .bl b => .bl b
  | _, _, .int b => .int b
  | _, _, .str b => .str b
  | _, _, .ref b => .ref b
  | _, _, .ty b => .ty b
  | _, _, .tup h l => .tup (e _ _ h) (RpL.monoT e l)
theorem RpL.monoT (e : ∀ a xs, SqT K H a xs → SqT K H' a xs) : ∀ {v : List V} {d : List D}, RpL K H v d → RpL K H' v d
  | _, _, .nil => .nil
  | _, _, .cons h l => .cons (Rp.monoT e h) (RpL.monoT e l)
end
theorem KD.monoT (e : ∀ a xs, SqT K H a xs → SqT K H' a xs) : ∀ {ps : List (Key × V)} {qs : List (Key × D)}, KD K H ps qs → KD K H' ps qs
  | [], [], h => h
  | p :: ps, q :: qs, h => ⟨h.1, h.2.1.monoT e, KD.monoT e h.2.2⟩
  | [], _ :: _, h => h.elim
  | _ :: _, [], h => h.elim
theorem FD.monoT (e : ∀ a xs, SqT K H a xs → SqT K H' a xs) : ∀ {ps : List (Str × V)} {qs : List (Str × D)}, FD K H ps qs → FD K H' ps qs
  | [], [], h => h
  | p :: ps, q :: qs, h => ⟨h.1, h.2.1.monoT e, FD.monoT e h.2.2⟩
  | [], _ :: _, h => h.elim
  | _ :: _, [], h => h.elim
theorem TExt.unlock {a : Addr} {o : Obj} {u : HO} (hu : H a = some u) (nf : NoTup (some u)) (e : TExt K (L2.upd H a (.frz o u)) H') : TExt K H (L2.upd H' a u) := by
  refine ⟨fun p xs h => ?_, fun p o' w h => ?_⟩
  · rcases h with (h | ⟨q, h⟩) | h
    · have n : p ≠ a := by rintro rfl; rw [hu] at h; cases h; exact nf
      have h1 : SqT K (L2.upd H a (.frz o u)) p xs := .inl (.inl (by rw [upd_ne n]; exact h))
      rcases e.tup _ _ h1 with (h2 | ⟨q2, h2⟩) | h2
      · exact .inl (.inl (by rw [upd_ne n]; exact h2))
      · exact .inl (.inr ⟨q2, by rw [upd_ne n]; exact h2⟩)
      · exact .inr h2
    · have n : p ≠ a := by rintro rfl; rw [hu] at h; cases h; exact nf
      have h1 : SqT K (L2.upd H a (.frz o u)) p xs := .inl (.inr ⟨q, by rw [upd_ne n]; exact h⟩)
      rcases e.tup _ _ h1 with (h2 | ⟨q2, h2⟩) | h2
      · exact .inl (.inl (by rw [upd_ne n]; exact h2))
      · exact .inl (.inr ⟨q2, by rw [upd_ne n]; exact h2⟩)
      · exact .inr h2
    · exact .inr h
  · have n : p ≠ a := by rintro rfl; rw [hu] at h; cases h; exact nf
    have h1 : L2.upd H a (.frz o u) p = some (.frz o' w) := by rw [upd_ne n]; exact h
    have h2 := e.frz _ _ _ h1
    rw [upd_ne n]; exact h2
end
section
variable {X : Cx} {W : DW}
def dLockN (a : Addr) (kvs : List (Key × D)) (Dn : DN) : DN where
  nx := fun τ M => M a = some (.rdk kvs) ∧ Dn.nx τ (put M a (.dk kvs))
  rt := fun d M => M a = some (.rdk kvs) ∧ Dn.rt d (put M a (.dk kvs))
  bk := fun τ M => M a = some (.rdk kvs) ∧ Dn.bk τ (put M a (.dk kvs))
  ct := fun τ M => M a = some (.rdk kvs) ∧ Dn.ct τ (put M a (.dk kvs))
  ex := Dn.ex
def dLock (t : DS) : DS := fun Dn τ M => ∃ a kvs, M a = some (.dk kvs) ∧ t (dLockN a kvs Dn) τ (put M a (.rdk kvs))
def dLockE (t : DE) : DE := fun τ M Q E => ∃ a kvs, M a = some (.dk kvs) ∧ t τ (put M a (.rdk kvs)) (fun d M1 => M1 a = some (.rdk kvs) ∧ Q d (put M1 a (.dk kvs))) E
/-- the lock itself -/
theorem HR.lock {K : PySem.W.Frag} {H : Hp} {M : Mp} {a : Addr} {o : Obj} {vs : List (Key × V)} {kvs : List (Key × D)} (hr : HR K H M) (hv : H a = some (.dK vs)) (l : KD K H vs kvs) : TExt K H (upd H a (.frz o (.dK vs))) ∧ HR K (upd H a (.frz o (.dK vs))) (DL.put M a (.rdk kvs)) := by
  have e : TExt K H (upd H a (.frz o (.dK vs))) := .upd (noTup_dK hv)
  exact ⟨e, hr.made (noTup_dK hv) ⟨o, vs, upd_same, l.mono e⟩⟩
theorem sqT_unlock {K : PySem.W.Frag} {H : Hp} {a : Addr} {o : Obj} {vs : List (Key × V)} (hf : H a = some (.frz o (.dK vs))) (p : Addr) (xs : List V) (h : SqT K H p xs) : SqT K (L2.upd H a (.dK vs)) p xs := by
  have n : p ≠ a ∨ ∃ ob its m, K.lookup p = some ob ∧ ob.cls = .type "tuple" ∧ ob.data = .seq its m ∧ its.size ≤ sizeLine ∧ Vals xs its.toList := by
    rcases h with (h | ⟨q, h⟩) | ⟨ob, its, m, r⟩
    · exact .inl (by rintro rfl; rw [hf] at h; cases h)
    · exact .inl (by rintro rfl; rw [hf] at h; cases h)
    · exact .inr ⟨ob, its, m, r⟩
  rcases n with n | r
  · rcases h with (h | ⟨q, h⟩) | h
    · exact .inl (.inl (by rw [upd_ne n]; exact h))
    · exact .inl (.inr ⟨q, by rw [upd_ne n]; exact h⟩)
    · exact .inr h
  · exact .inr r
/-- .. and its end -/
theorem HR.unlock {K : PySem.W.Frag} {H : Hp} {M : Mp} {a : Addr} {o : Obj} {vs : List (Key × V)} {kvs : List (Key × D)} (hr : HR K H M) (hf : H a = some (.frz o (.dK vs))) (hM : M a = some (.rdk kvs)) :
    HR K (upd H a (.dK vs)) (DL.put M a (.dk kvs)) := by
  obtain ⟨o1, vs1, h1, l⟩ : ∃ o vs, H a = some (.frz o (.dK vs)) ∧ KD K H vs kvs := hr a _ hM
  rw [hf] at h1
  cases h1
  have tt := sqT_unlock (K := K) hf
  intro b ob hb
  by_cases c : b = a
  · subst c
    rw [put_same] at hb
    cases hb
    exact ⟨vs, upd_same, KD.monoT tt l⟩
  · rw [put_ne c] at hb
    have h0 := hr b ob hb
    cases ob with
    | lst ds => obtain ⟨xs, q, r⟩ := h0; exact ⟨xs, (upd_ne c).trans q, RpL.monoT tt r⟩
    | rol ds => obtain ⟨o, xs, q, r⟩ := h0; exact ⟨o, xs, (upd_ne c).trans q, RpL.monoT tt r⟩
    | dk ds => obtain ⟨xs, q, r⟩ := h0; exact ⟨xs, (upd_ne c).trans q, KD.monoT tt r⟩
    | ins C ds => obtain ⟨dx, xs, q, r⟩ := h0; exact ⟨dx, xs, (upd_ne c).trans q, FD.monoT tt r⟩
    | xd ds => obtain ⟨xs, q, r⟩ := h0; exact ⟨xs, (upd_ne c).trans q, FD.monoT tt r⟩
    | rdk ds => obtain ⟨o, xs, q, r⟩ := h0; exact ⟨o, xs, (upd_ne c).trans q, KD.monoT tt r⟩
theorem RS.unlock {K : PySem.W.Frag} {H0 H' : Hp} {σ : L2.St} {τ : Sl} {a : Addr} {vs : List (Key × V)} (h : RS K H0 H' σ τ) (tt : ∀ p xs, SqT K H' p xs → SqT K (upd H' a (.dK vs)) p xs) (e : TExt K H0 (upd H' a (.dK vs))) : RS K H0 (upd H' a (.dK vs)) σ τ :=
  ⟨e, h.len, fun i d q => by
    obtain ⟨v, h1, r⟩ := h.at_ i d q
    exact ⟨v, h1, Rp.monoT tt r⟩⟩
theorem psd_lock {st : Stmt} {t : DS} (h : PSD X W st t) : PSD X W st (dLock t) := ⟨PSimp (ps_lock h.run) fun De σ H ⟨τ, M, Dd, hs, hr, ⟨a, kvs, ha, q⟩, we, nc⟩ => by
  obtain ⟨vs, hv, l⟩ := hr.dk ha
  refine ⟨a, .dK vs, hv, True.intro, fun od => ?_⟩
  obtain ⟨e1, h1⟩ := HR.lock (o := od) hr hv l
  have nf : NoTup (some (HO.dK vs)) := True.intro
  have at1 : ∀ {H' : Hp}, TExt X.K (upd H a (.frz od (.dK vs))) H' → H' a = some (.frz od (.dK vs)) := fun e => e.frz _ _ _ upd_same
  refine ⟨τ, _, dLockN a kvs Dd, hs.mono e1, h1, q, we, ?_, ?_, ?_, ?_⟩
  · intro τ' M' σ' H' q' e rs hr'
    exact ⟨at1 e, nc.nx τ' _ σ' _ q'.2 (TExt.unlock hv nf e) (rs.unlock (sqT_unlock (at1 e)) (hs.ext.trans (TExt.unlock hv nf e))) (hr'.unlock (at1 e) q'.1)⟩
  · intro d M' v H' q' e rv hr'
    exact ⟨at1 e, nc.rt d _ v _ q'.2 (TExt.unlock hv nf e) (rv.monoT (sqT_unlock (at1 e))) (hr'.unlock (at1 e) q'.1)⟩
  · intro τ' M' σ' H' q' e rs hr'
    exact ⟨at1 e, nc.bk τ' _ σ' _ q'.2 (TExt.unlock hv nf e) (rs.unlock (sqT_unlock (at1 e)) (hs.ext.trans (TExt.unlock hv nf e))) (hr'.unlock (at1 e) q'.1)⟩
  · intro τ' M' σ' H' q' e rs hr'
    exact ⟨at1 e, nc.ct τ' _ σ' _ q'.2 (TExt.unlock hv nf e) (rs.unlock (sqT_unlock (at1 e)) (hs.ext.trans (TExt.unlock hv nf e))) (hr'.unlock (at1 e) q'.1)⟩⟩
theorem pd_lock {e : Expr} {t : DE} (h : PD X W e t) : PD X W e (dLockE t) := ⟨PEimp (pe_lock h.run) fun σ H Q ⟨τ, M, Qd, Ed, hs, hr, ⟨a, kvs, ha, q⟩, we, k⟩ => by
  obtain ⟨vs, hv, l⟩ := hr.dk ha
  refine ⟨a, .dK vs, hv, True.intro, fun od => ?_⟩
  obtain ⟨e1, h1⟩ := HR.lock (o := od) hr hv l
  have nf : NoTup (some (HO.dK vs)) := True.intro
  have at1 : ∀ {H' : Hp}, TExt X.K (upd H a (.frz od (.dK vs))) H' → H' a = some (.frz od (.dK vs)) := fun e => e.frz _ _ _ upd_same
  refine ⟨τ, _, _, Ed, hs.mono e1, h1, q, we, fun d M' v H' q' e rv hr' => ?_⟩
  exact ⟨at1 e, k d _ v _ q'.2 (TExt.unlock hv nf e) (rv.monoT (sqT_unlock (at1 e))) (hr'.unlock (at1 e) q'.1)⟩⟩
def ofKey : Key → D
  | .inl i => .int i
  | .inr x => .str x
theorem ofKey_rp {K : PySem.W.Frag} {H : Hp} (k : Key) : Rp K H (kV k) (ofKey k) := by
  cases k with
  | inl i => exact .int i
  | inr x => exact .str x
/-- the keys of a dict that is locked -/
def dKeys (te : DE) : DI := fun τ M Q E => te τ M (fun d M1 => match d with
  | .ref a => match M1 a with
    | some (.rdk kvs) => kvs.length ≤ sizeLine ∧ Q (kvs.map fun q => ofKey q.1) (fun M => M a = some (.rdk kvs)) M1
    | _ => False
  | _ => False) E
theorem KD.keyAt {K : PySem.W.Frag} {H : Hp} : ∀ {vs : List (Key × V)} {ds : List (Key × D)} {i : Nat}, KD K H vs ds → (ds.map fun q => ofKey q.1)[i]? = (vs.map fun q => ofKey q.1)[i]?
  | [], [], _, _ => rfl
  | p :: _, q :: _, 0, h => by simp [h.1]
  | p :: _, q :: _, i + 1, h => by
    have := KD.keyAt (i := i) h.2.2
    simpa using this
  | [], _ :: _, _, h => h.elim
  | _ :: _, [], _, h => h.elim
theorem itOk_keys {K : PySem.W.Frag} {H : Hp} {a : Addr} {o : Obj} {vs : List (Key × V)} {kvs : List (Key × D)} (hf : H a = some (.frz o (.dK vs))) (l : KD K H vs kvs) (z : kvs.length ≤ sizeLine) : ItOk K H (Itk a o vs) (kvs.map fun q => ofKey q.1) fun M => M a = some (.rdk kvs) where
  small := by simpa using z
  go := fun i H1 M e _ _ hi => ⟨e.frz _ _ _ hf, by rw [l.length]; simpa using hi⟩
  stop := fun i H1 M e _ _ hi => ⟨e.frz _ _ _ hf, by rw [l.length]; simpa using hi⟩
  yld := fun i H1 M x H2 e _ _ y => by
    obtain ⟨rfl, k, v, ek, rfl⟩ := y
    refine ⟨.refl, fun _ h => h, fun d hd => ?_⟩
    rw [l.keyAt, List.getElem?_map, ek] at hd
    cases hd
    exact ofKey_rp k
theorem pid_keys {tg e : Expr} {te : DE} (he : PD X W e te) : PID X W tg e (dKeys te) := ⟨PIimp (pi_keys he.run) fun σ H R ⟨τ, M, Qd, Ed, hs, hr, q, we, k⟩ => ⟨τ, M, _, Ed, hs, hr, q, we, fun d M1 v H1 q1 e1 r1 h1 => by
  dsimp only at q1
  split at q1
  · rename_i a
    split at q1
    · rename_i kvs ea
      obtain ⟨o, vs, hf, l⟩ : ∃ o vs, H1 a = some (.frz o (.dK vs)) ∧ KD X.K H1 vs kvs := h1 a _ ea
      exact ⟨a, o, r1.toRef, .inl ⟨vs, hf, k _ _ _ M1 H1 q1.2 e1 h1 (itOk_keys hf l q1.1)⟩⟩
    · exact q1.elim
  · exact q1.elim⟩⟩
end
end DL

set_option maxHeartbeats 4000000
namespace DL
open PySem PySem.Spec L2
section
variable {X : Cx} {W : DW} {pos p : Pos}
/-! ### d.copy(), d.get(k, x), d[k] = v, len, list, sorted of a dict -/
def copyM : DM := fun d ds M Q => match dictOf d M, ds with
  | some kvs, [] => ∀ p, M p = none → Q (.ref p) (put M p (.dk kvs))
  | _, _ => False
theorem mt_copyM : MtR X "dict.copy" (liftM X.K copyM) := MtRimp DLdict.mt_copy fun x xs H Q ⟨d, ds, M, Qd, q, rx, rs, hr, k⟩ => by
  unfold copyM at q
  split at q
  · rename_i kvs ed
    obtain ⟨a, vs, rfl, rfl, _, hv, l⟩ := dictOf_ok rx hr ed
    exact ⟨a, vs, rfl, rs.nil_of, hv, fun p hp => k.dict hr l hp q⟩
  · exact q.elim
def dDGet2 (td ty tx : DE) : DE := fun τ M Q E => td τ M (fun x M1 => (dictRd x M1).isSome = true ∧ ty τ M1 (fun y M2 => tx τ M2 (fun z M3 => match dictRd x M3, keyD y with
  | some kvs, some k => Q ((valD kvs k).getD z) M3
  | _, _ => False) E) E) E
theorem isD_rd {K : PySem.W.Frag} {H : Hp} {M : Mp} {v : V} {d : D} (r : Rp K H v d) (hr : HR K H M) (h : (dictRd d M).isSome = true) : ∃ a, v = .ref a ∧ IsD H a := by
  obtain ⟨kvs, e⟩ := Option.isSome_iff_exists.mp h
  obtain ⟨a, vs, rfl, _, hv, _⟩ := dictRd_ok r hr e
  exact ⟨a, rfl, .inl ⟨vs, hv⟩⟩
theorem pd_dget2 {o e f : Expr} {td ty tx : DE} {apos cpos : Pos} (hu : X.A.units + 1 < cLine) (ho : PD X W o td) (he : PD X W e ty) (hf : PD X W f tx) (m : M2 X o "get" apos e f cpos) : PD X W (.Call (.Attribute o "get" apos) [e, f] [] cpos) (dDGet2 td ty tx) :=
  ⟨PEimp (pe_dget2 hu ho.run he.run hf.run m) fun σ H Q ⟨τ, M, Qd, Ed, hs, hr, q, we, kk⟩ => ⟨τ, M, _, Ed, hs, hr, q, we, fun x M1 xv H1 q1 e1 r1 h1 => by
    obtain ⟨a, rfl, hd⟩ := isD_rd r1 h1 q1.1
    refine ⟨a, rfl, hd, τ, M1, _, Ed, hs.mono e1, h1, q1.2, we, fun y M2 yv H2 q2 e2 r2 h2 => ⟨τ, M2, _, Ed, hs.mono (e1.trans e2), h2, q2, we, fun z M3 zv H3 q3 e3 r3 h3 => ?_⟩⟩
    dsimp only at q3
    split at q3
    · rename_i kvs k ed ek
      obtain ⟨a', vs, ea, _, hv, l⟩ := dictRd_ok (r1.mono (e2.trans e3)) h3 ed
      cases ea
      refine ⟨valV vs k, .inl ⟨vs, k, hv, keyD_ok (r2.mono e3) ek, rfl⟩, ?_⟩
      have e03 := (e1.trans e2).trans e3
      cases c : valD kvs k with
      | none =>
        rw [c] at q3
        have : valV vs k = none := by
          have := l.got (k := k)
          rw [c] at this
          simpa using this
        rw [this]
        exact kk _ M3 _ H3 q3 e03 r3 h3
      | some w =>
        rw [c] at q3
        obtain ⟨u, hu, ru⟩ := l.get _ c
        rw [hu]
        exact kk _ M3 _ H3 q3 e03 ru h3
    · exact q3.elim⟩⟩
/-- d[k] = v -/
def dGSubD (to ti : DE) : DGt := fun v τ M Q => to τ M (fun o M1 => ti τ M1 (fun i M2 => match o with
  | .ref a => match M2 a, keyD i with
    | some (.dk kvs), some k => kvs.length < sizeLine ∧ Q τ (put M2 a (.dk (putKD kvs k v)))
    | _, _ => False
  | _ => False) fun _ _ => False) fun _ _ => False
theorem pgd_subD {o i : Expr} {to ti : DE} (hu : X.A.units + 1 < cLine) (ho : PD X W o to) (hi : PD X W i ti)
    (ha : ∀ v, assign (.Subscript o i pos) X.env v = (do
      let ov ← holding [v] (eval o X.env)
      let iv ← holding [v, ov] (eval i X.env)
      standAt pos
      holding [v, ov, iv] (setItem ov iv v)
      release [v, ov, iv] []) := by intro _; rfl) : PGD X W.h0 (.Subscript o i pos) (dGSubD to ti) :=
  ⟨PGimp (pg_sub ho.run hi.run (set_dict hu) ha) fun v σ H Q ⟨d, τ, M, Qd, r, hs, hr, q, k⟩ => ⟨τ, M, _, _, hs, hr, q, fun _ _ z => z.elim, fun od M1 ov H1 q1 e1 r1 h1 =>
    ⟨τ, M1, _, _, hs.mono e1, h1, q1, fun _ _ z => z.elim, fun id M2 iv H2 q2 e2 r2 h2 => by
      dsimp only at q2
      split at q2
      · rename_i a
        split at q2
        · rename_i kvs kx ea ek
          obtain ⟨vs, hv, l⟩ := h2.dk ea
          have l2 := l.put (k := kx) (r.mono (e1.trans e2))
          obtain ⟨e3, h3⟩ := HR.dictAt h2 hv l2
          refine ⟨a, _, (r1.mono e2).toRef, .inl ⟨vs, kx, hv, keyD_ok r2 ek, by rw [l.length]; exact q2.1, rfl⟩, ?_⟩
          exact k τ _ σ _ q2.2 (e1.trans (e2.trans e3)) (hs.mono (e1.trans (e2.trans e3))) h3
        · exact q2.elim
      · exact q2.elim⟩⟩⟩
def lenDict : DG := fun ds M Q => match ds with
  | [d] => match dictOf d M with
    | some kvs => Q (.int ((kvs.length : Nat) : Int)) M
    | none => False
  | _ => False
theorem call_lenDict : CallR X (.builtin "len") (liftC X.K lenDict) := CallRimp call_lenD fun xs H Q ⟨ds, M, Qd, q, r, hr, k⟩ => by
  unfold lenDict at q
  split at q
  · obtain ⟨v, rfl, rv⟩ := r.one
    split at q
    · rename_i kvs ed
      obtain ⟨a, vs, rfl, rfl, _, hv, l⟩ := dictOf_ok rv hr ed
      refine ⟨a, vs, rfl, hv, ?_⟩
      rw [l.length]
      exact k _ M _ H q .refl (.int _) hr
    · exact q.elim
  · exact q.elim
theorem KD.keys {K : PySem.W.Frag} {H : Hp} : ∀ {vs : List (Key × V)} {ds : List (Key × D)}, KD K H vs ds → RpL K H (vs.map fun q => kV q.1) (ds.map fun q => ofKey q.1)
  | [], [], _ => .nil
  | p :: _, q :: _, h => .cons (by show Rp K H (kV p.1) (ofKey q.1); rw [h.1]; exact ofKey_rp _) (KD.keys h.2.2)
  | [], _ :: _, h => h.elim
  | _ :: _, [], h => h.elim
theorem KD.keysEq {K : PySem.W.Frag} {H : Hp} : ∀ {vs : List (Key × V)} {ds : List (Key × D)}, KD K H vs ds → vs.map (·.1) = ds.map (·.1)
  | [], [], _ => rfl
  | p :: _, q :: _, h => by rw [List.map_cons, List.map_cons, h.1, KD.keysEq h.2.2]
  | [], _ :: _, h => h.elim
  | _ :: _, [], h => h.elim
def lstDict : DG := fun ds M Q => match ds with
  | [d] => match dictRd d M with
    | some kvs => ∀ p, M p = none → Q (.ref p) (put M p (.lst (kvs.map fun q => ofKey q.1)))
    | none => False
  | _ => False
theorem call_lstDict (hc : X.calm = true) : CallR X (.type "list") (liftC X.K lstDict) := CallRimp (call_listD hc) fun xs H Q ⟨ds, M, Qd, q, r, hr, k⟩ => by
  unfold lstDict at q
  split at q
  · obtain ⟨v, rfl, rv⟩ := r.one
    split at q
    · rename_i kvs ed
      obtain ⟨a, vs, rfl, rfl, hv, l⟩ := dictRd_ok rv hr ed
      exact ⟨a, vs, rfl, hv, fun p hp => k.lst hr l.keys hp q⟩
    · exact q.elim
  · exact q.elim
/-- sorted(d), keys that are texts -/
def sortDictS : DG := fun ds M Q => match ds with
  | [d] => match dictRd d M with
    | some kvs => ∃ ks : List Str, kvs.map (·.1) = ks.map Sum.inr ∧ ks.length < 64 ∧ ∀ (ys : List Str) (p : Addr), ys.Perm ks → PyProof.Rows.sortedS ys = true → M p = none → Q (.ref p) (put M p (.lst (ys.map D.str)))
    | none => False
  | _ => False
theorem call_sortDictS (hc : X.calm = true) : CallR X (.builtin "sorted") (liftC X.K sortDictS) := CallRimp (call_sortedD hc) fun xs H Q ⟨ds, M, Qd, q, r, hr, k⟩ => by
  unfold sortDictS at q
  split at q
  · obtain ⟨v, rfl, rv⟩ := r.one
    split at q
    · rename_i kvs ed
      obtain ⟨a, vs, rfl, rfl, hv, l⟩ := dictRd_ok rv hr ed
      obtain ⟨ks, h1, h2, q⟩ := q
      exact ⟨a, vs, ks, rfl, hv, l.keysEq.trans h1, h2, fun ys p hy hs hp => k.lst hr (RpL.ofStrs (ns := ys)) hp fun p hp => q ys p hy hs hp⟩
    · exact q.elim
  · exact q.elim
/-- sorted(xs), a list of ints -/
def sortInts : DG := fun ds M Q => match ds with
  | [.ref a] => match (seqOf M a).bind intsOf with
    | some ns => ∀ (ns' : List Int) (p : Addr), ns'.Perm ns → ns'.Pairwise (· ≤ ·) → M p = none → Q (.ref p) (put M p (.lst (ns'.map D.int)))
    | none => False
  | _ => False
theorem call_sortInts : CallR X (.builtin "sorted") (liftC X.K sortInts) := CallRimp cr_sortedI fun xs H Q ⟨ds, M, Qd, q, r, hr, k⟩ => by
  unfold sortInts at q
  split at q
  · obtain ⟨v, rfl, rv⟩ := r.one
    split at q
    · rename_i ns e
      obtain ⟨zs, e1, e2⟩ := Option.bind_eq_some_iff.mp e
      obtain ⟨vs, s, l⟩ := seqOf_ok hr e1
      rw [intsOf_ok e2] at l
      rw [l.ints] at s
      exact ⟨_, ns, by rw [rv.toRef], s, fun ns' p hp hs hn => k.lst hr (RpL.ofInts (ns := ns')) hn fun p hp' => q ns' p hp hs hp'⟩
    · exact q.elim
  · exact q.elim
/-! ### texts -/
def strG : DG := fun ds M Q => match ds with
  | [.int i] => i.natAbs.log2 < 1920 ∧ Q (.str (toString i)) M
  | _ => False
theorem call_strG : CallR X (.type "str") (liftC X.K strG) := CallRimp call_str_int fun xs H Q ⟨ds, M, Qd, q, r, hr, k⟩ => by
  unfold strG at q
  split at q
  · obtain ⟨v, rfl, rv⟩ := r.one
    rw [rv.toInt]
    exact ⟨_, rfl, q.1, k _ M _ H q.2 .refl (.str _) hr⟩
  · exact q.elim
def strsOf : List D → Option (List Str)
  | [] => some []
  | .str i :: ds => (strsOf ds).map (i :: ·)
  | _ :: _ => none
theorem strsOf_map : ∀ ns : List Str, strsOf (ns.map D.str) = some ns
  | [] => rfl
  | n :: ns => by simp [strsOf, strsOf_map ns]
theorem strsOf_ok : ∀ {ds : List D} {ns : List Str}, strsOf ds = some ns → ds = ns.map D.str
  | [], ns, h => by cases h; rfl
  | d :: ds, ns, h => by
    cases d with
    | str b =>
      have h' : (strsOf ds).map (b :: ·) = some ns := h
      cases e : strsOf ds with
      | none => rw [e] at h'; cases h'
      | some cs => rw [e] at h'; cases h'; rw [strsOf_ok e]; rfl
    | _ => cases h
def joinM : DM := fun d ds M Q => match d, ds with
  | .str a, [y] => match (seqD y M).bind strsOf with
    | some ys => (ys.map (·.length)).sum + ys.length * a.length ≤ 16777216 ∧ Q (.str (Txt.join a ys)) M
    | none => False
  | _, _ => False
theorem mt_joinM : MtR X "str.join" (liftM X.K joinM) := MtRimp mt_join fun x xs H Q ⟨d, ds, M, Qd, q, rx, rs, hr, k⟩ => by
  unfold joinM at q
  split at q
  · rename_i a y
    obtain ⟨v, rfl, rv⟩ := rs.one
    split at q
    · rename_i ys e
      obtain ⟨zs, e1, e2⟩ := Option.bind_eq_some_iff.mp e
      obtain ⟨l, vs, rfl, s, r⟩ := seqD_ok rv hr e1
      rw [strsOf_ok e2] at r
      rw [r.strs] at s
      exact ⟨a, l, ys, rx.toStr, rfl, s, q.1, k _ M _ H q.2 .refl (.str _) hr⟩
    · exact q.elim
  · exact q.elim
/-- a sign in a text -/
def inSign (n : Bool) : DO := fun x y M Q => match x, y with
  | .str a, .str z => ∃ c : Nat, a = ⟨#[c]⟩ ∧ Q (.bl (n != decide (c ∈ z.cps.toList))) M
  | _, _ => False
theorem op_inSign : OpR X (compareOp .In) (liftO X.K (inSign false)) := OpRimp op_in_sign fun x y H Q ⟨dx, dy, M, Qd, q, a, b, c, k⟩ => by
  unfold inSign at q
  split at q
  · obtain ⟨ch, rfl, q⟩ := q
    exact ⟨ch, _, a.toStr, b.toStr, k _ M _ H (by simpa using q) .refl (.bl _) c⟩
  · exact q.elim
theorem op_notInSign : OpR X (compareOp .NotIn) (liftO X.K (inSign true)) := OpRimp op_notIn_sign fun x y H Q ⟨dx, dy, M, Qd, q, a, b, c, k⟩ => by
  unfold inSign at q
  split at q
  · obtain ⟨ch, rfl, q⟩ := q
    exact ⟨ch, _, a.toStr, b.toStr, k _ M _ H (by simpa using q) .refl (.bl _) c⟩
  · exact q.elim
/-! ### a dict of the module's own: is it there -/
/-- the dict at a of the module, with these keys -/
def inKD (K : PySem.W.Frag) (a : Addr) (n : Bool) : DO := fun x y M Q => match x, y with
  | .str z, .ref b => b = a ∧ ∃ r, PySem.W.nsIn K a z = some r ∧ Q (.bl (n != r.isSome)) M
  | _, _ => False
theorem op_inKD {a : Addr} {es : Array DictEntry} {m : Nat} (Dk : KDict X.K X.w a es m) : OpR X (compareOp .In) (liftO X.K (inKD X.K a false)) := OpRimp (op_in_kd Dk) fun x y H Q ⟨dx, dy, M, Qd, q, ra, rb, c, k⟩ => by
  unfold inKD at q
  split at q
  · obtain ⟨rfl, r, e, q⟩ := q
    exact ⟨_, r, ra.toStr, rb.toRef, e, k _ M _ H (by simpa using q) .refl (.bl _) c⟩
  · exact q.elim
end
end DL

set_option maxHeartbeats 4000000
namespace DL
open PySem PySem.Spec L2
theorem bt_sorted : bootBuiltins "sorted" = some (.builtin "sorted") := by decide +kernel
theorem bt_sum : bootBuiltins "sum" = some (.builtin "sum") := by decide +kernel
theorem u200 {k : Nat} {A : Around} (r : Room k A) : A.units + 200 < cLine := by have := r.un; omega
theorem u1 {k : Nat} {A : Around} (r : Room k A) : A.units + 1 < cLine := by have := r.un; omega
section
variable {X : Cx} {W : DW} {pos : Pos}
theorem ptd_din {o i : Expr} {ty td : DE} (hu : X.A.units + 1 < cLine) (hi : PD X W i ty) (ho : PD X W o td) (hm : behindInMarks .In o = false := by with_unfolding_all rfl) : PTD X W (.Compare i [.In] [o] pos) (dB (dDIn false ty td)) :=
  ⟨PTimp (pt_cmp (pc_din hu hi.run ho.run) hm) fun σ H Q h => by
    have := dDIn_read (Q := fun x H1 => ∃ k, x = .bl k ∧ Q k H1) (dB_lift h)
    simpa [tB, tDIn] using this⟩
theorem ptd_dnotin {o i : Expr} {ty td : DE} (hu : X.A.units + 1 < cLine) (hi : PD X W i ty) (ho : PD X W o td) (hm : behindInMarks .NotIn o = false := by with_unfolding_all rfl) : PTD X W (.Compare i [.NotIn] [o] pos) (dB (dDIn true ty td)) :=
  ⟨PTimp (pt_cmp (pc_dnotin hu hi.run ho.run) hm) fun σ H Q h => by
    have := dDIn_read (Q := fun x H1 => ∃ k, x = .bl k ∧ Q k H1) (dB_lift h)
    simpa [tB, tDNotIn] using this⟩
/-! ### {k: v, ..} -/
def dPairs : List (DE × DE) → Sl → Mp → (List (D × D) → Mp → Prop) → EK → Prop
  | [], _, M, Q, _ => Q [] M
  | (tk, tv) :: r, τ, M, Q, E => tk τ M (fun x M1 => tv τ M1 (fun y M2 => dPairs r τ M2 (fun ps M3 => Q ((x, y) :: ps) M3) E) E) E
def RpP (K : PySem.W.Frag) (H : Hp) : List (V × V) → List (D × D) → Prop
  | [], [] => True
  | p :: ps, q :: qs => Rp K H p.1 q.1 ∧ Rp K H p.2 q.2 ∧ RpP K H ps qs
  | _, _ => False
theorem dPairs_lift {τ : Sl} {σ : L2.St} {Ed : EK} (we : ∀ x M', Ed x M' → W.w x τ M') : ∀ (trs : List (DE × DE)) {H : Hp} {M : Mp} {Qd : List (D × D) → Mp → Prop} {Q : List (V × V) → Hp → Prop}, RS X.K W.h0 H σ τ → HR X.K H M → dPairs trs τ M Qd Ed →
    (∀ ds M' vs H', Qd ds M' → TExt X.K H H' → RpP X.K H' vs ds → HR X.K H' M' → Q vs H') → tPairs (trs.map fun p => (liftE X.K W p.1, liftE X.K W p.2)) σ H Q
  | [], H, M, Qd, Q, hs, hr, q, k => k [] M [] H q .refl True.intro hr
  | (tk, tv) :: r, H, M, Qd, Q, hs, hr, q, k => ⟨τ, M, _, Ed, hs, hr, q, we, fun x M1 xv H1 q1 e1 r1 h1 => ⟨τ, M1, _, Ed, hs.mono e1, h1, q1, we, fun y M2 yv H2 q2 e2 r2 h2 =>
      dPairs_lift we r (hs.mono (e1.trans e2)) h2 q2 fun ds M3 vs H3 q3 e3 r3 h3 => k _ M3 _ H3 q3 ((e1.trans e2).trans e3) ⟨r1.mono (e2.trans e3), r2.mono e3, r3⟩ h3⟩⟩
def keysD : List (D × D) → Option (List (Key × D))
  | [] => some []
  | (x, y) :: r => match keyD x, keysD r with
    | some k, some l => some ((k, y) :: l)
    | _, _ => none
theorem keysD_ok {K : PySem.W.Frag} {H : Hp} : ∀ {vs : List (V × V)} {ds : List (D × D)} {l : List (Key × D)}, RpP K H vs ds → keysD ds = some l → ∃ ws : List (Key × V), vs = ws.map (fun q => (kV q.1, q.2)) ∧ KD K H ws l
  | [], [], l, _, h => by cases h; exact ⟨[], rfl, True.intro⟩
  | p :: ps, (x, y) :: qs, l, r, h => by
    unfold keysD at h
    split at h
    · rename_i k l' ek el
      cases h
      obtain ⟨ws, e, kd⟩ := keysD_ok r.2.2 el
      refine ⟨(k, p.2) :: ws, ?_, rfl, r.2.1, kd⟩
      rw [List.map_cons, ← e, ← keyD_ok r.1 ek]
    · cases h
  | [], _ :: _, _, r, _ => r.elim
  | _ :: _, [], _, r, _ => r.elim
def dDisp (trs : List (DE × DE)) : DE := fun τ M Q E => ∀ p, M p = none → dPairs trs τ (put M p (.dk [])) (fun ps M2 => M2 p = some (.dk []) ∧ match keysD ps with
  | some l => l.length ≤ 15 ∧ Q (.ref p) (put M2 p (.dk (mergeKD [] l)))
  | none => False) E
structure PPD (X : Cx) (W : DW) (pos : Pos) (keys : List (Option Expr)) (values : List Expr) (trs : List (DE × DE)) : Prop where
  run : PPs X pos keys values (trs.map fun p => (liftE X.K W p.1, liftE X.K W p.2))
theorem ppd_nil : PPD X W pos [] [] [] := ⟨pps_nil⟩
theorem ppd_cons {k v : Expr} {ks : List (Option Expr)} {vs : List Expr} {tk tv : DE} {trs : List (DE × DE)} (hk : PD X W k tk) (hv : PD X W v tv) (hr : PPD X W pos ks vs trs) : PPD X W pos (some k :: ks) (v :: vs) ((tk, tv) :: trs) := ⟨pps_cons hk.run hv.run hr.run⟩
theorem pd_disp {keys : List (Option Expr)} {values : List Expr} {trs : List (DE × DE)} (h : PPD X W pos keys values trs) (hall : keys.all (·.isSome) = true := by rfl) (hl : keys.length = values.length := by rfl) (h0 : keys ≠ [] := by simp) (h15 : keys.length ≤ 15 := by decide) :
    PD X W (.Dict keys values pos) (dDisp trs) := ⟨PEimp (pe_disp h.run hall hl h0 h15) fun σ H Q ⟨τ, M, Qd, Ed, hs, hr, q, we, kk⟩ p hp => by
  have e0 : TExt X.K H (upd H p (.dK [])) := .new hp
  have h0 : HR X.K (upd H p (.dK [])) (put M p (.dk [])) := hr.made (noTup_none hp) ⟨[], upd_same, True.intro⟩
  refine dPairs_lift we trs (hs.mono e0) h0 (q p (hr.free hp)) fun ds M2 vs H2 q2 e2 r2 h2 => ?_
  obtain ⟨c1, q2⟩ := q2
  split at q2
  · rename_i l el
    obtain ⟨w0, hw0, l0⟩ := h2.dk c1
    have : w0 = [] := List.length_eq_zero_iff.mp l0.length
    subst this
    obtain ⟨ws, ev, kd⟩ := keysD_ok r2 el
    refine ⟨hw0, ws, ev, by rw [kd.length]; exact q2.1, ?_⟩
    have lm : KD X.K H2 (mergeK [] ws) (mergeKD [] l) := KD.merge kd True.intro
    obtain ⟨e3, h3⟩ := HR.dictAt h2 hw0 lm
    exact kk _ _ _ _ q2.2 ((e0.trans e2).trans e3) (.ref p) h3
  · exact q2.elim⟩
end
end DL

set_option maxHeartbeats 4000000
namespace DL
open PySem PySem.Spec L2
/-! ### what stands in a dict -/
theorem valD_cons {q : Key × D} {l : List (Key × D)} {k : Key} : valD (q :: l) k = if q.1 = k then some q.2 else valD l k := by
  by_cases c : q.1 = k <;> simp [valD, List.find?_cons, c]
theorem valD_nil {k : Key} : valD [] k = none := rfl
theorem valD_snoc {k j : Key} {d : D} : ∀ {l : List (Key × D)}, (l.any fun q => decide (q.1 = k)) = false → valD (l ++ [(k, d)]) j = if k = j then some d else valD l j
  | [], _ => by rw [List.nil_append, valD_cons]
  | q :: l, h => by
    rw [List.any_cons, Bool.or_eq_false_iff] at h
    have hq : ¬ q.1 = k := of_decide_eq_false h.1
    rw [List.cons_append, valD_cons, valD_cons, valD_snoc h.2]
    by_cases c : q.1 = j
    · rw [if_pos c, if_pos c]
      split
      · rename_i e; exact absurd (c.trans e.symm) hq
      · rfl
    · rw [if_neg c, if_neg c]
theorem over_no {k : Key} {d : D} : ∀ {l : List (Key × D)}, (l.any fun q => decide (q.1 = k)) = false → (l.map fun q => if q.1 = k then (q.1, d) else q) = l
  | [], _ => rfl
  | q :: l, h => by
    rw [List.any_cons, Bool.or_eq_false_iff] at h
    rw [List.map_cons, if_neg (of_decide_eq_false h.1), over_no h.2]
theorem valD_over {k j : Key} {d : D} : ∀ {l : List (Key × D)}, (l.any fun q => decide (q.1 = k)) = true → valD (l.map fun q => if q.1 = k then (q.1, d) else q) j = if k = j then some d else valD l j
  | [], h => by cases h
  | q :: l, h => by
    rw [List.map_cons, valD_cons, valD_cons]
    by_cases c : q.1 = k
    · rw [if_pos c]
      by_cases e : q.1 = j
      · rw [if_pos e, if_pos (c.symm.trans e)]
      · rw [if_neg e, if_neg e, if_neg (fun z => e (c.trans z))]
        by_cases a : (l.any fun q => decide (q.1 = k)) = true
        · rw [valD_over a, if_neg (fun z => e (c.trans z))]
        · rw [over_no (Bool.eq_false_iff.mpr a)]
    · rw [if_neg c]
      have a : (l.any fun q => decide (q.1 = k)) = true := by
        rw [List.any_cons, Bool.or_eq_true] at h
        exact h.resolve_left (by simpa using c)
      rw [valD_over a]
      by_cases e : q.1 = j
      · rw [if_pos e]
        split
        · rename_i z; exact absurd (e.trans z.symm) c
        · rfl
      · rw [if_neg e, if_neg e]
theorem valD_put {l : List (Key × D)} {k j : Key} {d : D} : valD (putKD l k d) j = if k = j then some d else valD l j := by
  unfold putKD
  split
  · rename_i h; exact valD_over h
  · rename_i h; exact valD_snoc (Bool.eq_false_iff.mpr h)
def keysOk (l : List (Key × D)) : Prop := (l.map (·.1)).Nodup
theorem keysOk_nil : keysOk [] := List.nodup_nil
theorem keysOk_put {l : List (Key × D)} {k : Key} {d : D} (h : keysOk l) : keysOk (putKD l k d) := by
  unfold keysOk putKD at *
  split
  · have : (l.map fun q => if q.1 = k then (q.1, d) else q).map (·.1) = l.map (·.1) := by
      rw [List.map_map]
      refine List.map_congr_left fun q _ => ?_
      show (if q.1 = k then (q.1, d) else q).1 = q.1
      split <;> rfl
    rw [this]; exact h
  · rename_i c
    rw [List.map_append, List.nodup_append]
    refine ⟨h, by simp, fun x hx y hy e => ?_⟩
    simp at hy
    subst hy
    obtain ⟨q, hq, rfl⟩ := List.mem_map.mp hx
    exact c (List.any_eq_true.mpr ⟨q, hq, by simpa using e⟩)
theorem mergeKD_app : ∀ {more acc : List (Key × D)}, keysOk (acc ++ more) → mergeKD acc more = acc ++ more
  | [], acc, _ => by simp [mergeKD]
  | q :: more, acc, h => by
    have hno : (acc.any fun p => decide (p.1 = q.1)) = false := by
      rw [Bool.eq_false_iff]
      intro z
      obtain ⟨p, hp, e⟩ := List.any_eq_true.mp z
      unfold keysOk at h
      rw [List.map_append, List.nodup_append] at h
      exact h.2.2 p.1 (List.mem_map.mpr ⟨p, hp, rfl⟩) q.1 (by simp) (of_decide_eq_true e)
    have e1 : mergeKD acc (q :: more) = mergeKD (putKD acc q.1 q.2) more := rfl
    have e2 : putKD acc q.1 q.2 = acc ++ [q] := by unfold putKD; rw [hno]; simp
    rw [e1, e2, mergeKD_app (by simpa [keysOk] using h)]
    simp
theorem mergeKD_nil {l : List (Key × D)} (h : keysOk l) : mergeKD [] l = l := by
  rw [mergeKD_app (by simpa using h)]
  rfl
theorem putKD_length {l : List (Key × D)} {k : Key} {d : D} : (putKD l k d).length ≤ l.length + 1 := by
  unfold putKD
  split <;> simp
end DL

set_option maxHeartbeats 4000000
namespace DL
open PySem PySem.Spec L2
/-! ### the draws' state, as every law has it -/
/-- everything but S stays -/
def Ext (S : Addr → Prop) (M M' : Mp) : Prop := ∀ a o, ¬ S a → M a = some o → M' a = some o
abbrev Is (s : Addr) : Addr → Prop := fun a => a = s
/-- the draws' state at s, the script's ints at l -/
def PSt (M : Mp) (s l : Addr) (ns : List Int) : Prop := s ≠ l ∧ M l = some (.lst (ns.map D.int)) ∧ ∃ seed pos rest : Int, M s = some (.lst [.int seed, .ref l, .int pos, .int rest]) ∧ 0 ≤ seed ∧ seed < 2147483647 ∧ 0 ≤ pos ∧ pos ≤ ns.length ∧ 0 ≤ rest
def spPick : DSp := fun ds M Q _ => ∃ (s l : Addr) (ns : List Int) (limit : Int), ds = [.ref s, .int limit] ∧ PSt M s l ns ∧ 0 < limit ∧ limit.natAbs.log2 < 9000 ∧
  ∀ (r : Int) (o : MO), 0 ≤ r → r < limit → PSt (put M s o) s l ns → Q (.int r) (put M s o)
def spStart1 : DSp := fun ds M Q _ => ∃ (a : Addr) (ns : List Int), ds = [.ref a] ∧ M a = some (.rol (ns.map D.int)) ∧ ns.length ≤ 100000 ∧ ∀ s l M', PSt M' s l ns → Sub M M' → Q (.ref s) M'
def spStart2 (K : PySem.W.Frag) : DSp := fun ds M Q _ => ∃ (a : Addr) (ns : List Int), ds = [.ref a] ∧ KL K a ns ∧ ns.length ≤ 100000 ∧ ∀ s l M', PSt M' s l ns → Sub M M' → Q (.ref s) M'
def spStart (K : PySem.W.Frag) : DSp := fun ds M Q _ => ∃ (a : Addr) (ns : List Int), ds = [.ref a] ∧ (M a = some (.rol (ns.map D.int)) ∨ KL K a ns) ∧ ns.length ≤ 100000 ∧ ∀ s l M', PSt M' s l ns → Sub M M' → Q (.ref s) M'
def okS : Nat → D → Prop
  | n, .tup xs => ∃ m, n = m + 1 ∧ xs.length ≤ 100000 ∧ ∀ x, x ∈ xs → okS m x
  | _, .ref _ => False
  | _, .ty _ => False
  | _, d => ok d = true
def spSame : Nat → DSp
  | 0 => fun _ _ _ _ => False
  | n + 1 => fun ds M Q _ => ∃ d, ds = [d, d] ∧ okS n d ∧ Q (.bl true) M
/-- .. and whatever flags -/
def spSameB : Nat → DSp
  | 0 => fun _ _ _ _ => False
  | n + 1 => fun ds M Q _ => ∃ d, ds = [d, d] ∧ okS n d ∧ Q (.bl true) M
section
variable {S S' : Addr → Prop} {M0 M M' M1 M2 : Mp} {s l p q : Addr} {ns : List Int} {Q : DK} {E : EK} {o u : MO}
theorem seq_split {t u : DS} {Dn : DN} {τ : Sl} {M : Mp} (R : Sl → Mp → Prop) (h2 : ∀ τ M, R τ M → u Dn τ M) (h1 : ∀ nx : Sl → Mp → Prop, (∀ τ M, R τ M → nx τ M) → t { Dn with nx := nx } τ M) : dSeq t u Dn τ M := h1 _ h2
theorem Ext.refl : Ext S M M := fun _ _ _ h => h
theorem Ext.trans (a : Ext S M M1) (b : Ext S M1 M2) : Ext S M M2 := fun p o n h => b p o n (a p o n h)
theorem Ext.wide (a : Ext S M M1) (h : ∀ x, S x → S' x) : Ext S' M M1 := fun p o n => a p o fun z => n (h p z)
theorem Ext.one (a : Ext (Is s) M M1) (h : S s) : Ext S M M1 := a.wide fun x e => by rw [e]; exact h
theorem Ext.lay (hp : M p = none) : Ext S M (DL.put M p o) := fun a u n h => by
  rw [put_ne]
  · exact h
  · rintro rfl; rw [h] at hp; cases hp
theorem Ext.set (hp : S p) : Ext S M (DL.put M p o) := fun a u n h => by
  rw [put_ne]
  · exact h
  · rintro rfl; exact n hp
theorem Ext.sub (h : Sub M M') : Ext S M M' := fun a o _ e => h a o e
theorem PSt.mk {seed pos rest : Int} (n : s ≠ l) (h : M l = some (.lst (ns.map D.int))) (h1 : 0 ≤ seed) (h2 : seed < 2147483647) (h3 : 0 ≤ pos) (h4 : pos ≤ ns.length) (h5 : 0 ≤ rest) : PSt (DL.put M s (.lst [.int seed, .ref l, .int pos, .int rest])) s l ns :=
  ⟨n, (put_ne (Ne.symm n)).trans h, seed, pos, rest, put_same, h1, h2, h3, h4, h5⟩
theorem PSt.s_some (h : PSt M s l ns) (hp : M p = none) : p ≠ s ∧ p ≠ l := by
  obtain ⟨_, hl, _, _, _, hs, _⟩ := h
  refine ⟨fun e => ?_, fun e => ?_⟩
  · subst e; rw [hs] at hp; cases hp
  · subst e; rw [hl] at hp; cases hp
theorem PSt.put (h : PSt M s l ns) (n1 : p ≠ s) (n2 : p ≠ l) : PSt (DL.put M p o) s l ns := by
  obtain ⟨n, hl, a, b, c, hs, r⟩ := h
  exact ⟨n, (put_ne (Ne.symm n2)).trans hl, a, b, c, (put_ne (Ne.symm n1)).trans hs, r⟩
theorem PSt.new (h : PSt M s l ns) (hp : M p = none) : PSt (DL.put M p o) s l ns := h.put (h.s_some hp).1 (h.s_some hp).2
/-- from M0 on the draws' state was kept, everything but S stayed -/
structure LS (S : Addr → Prop) (M0 M : Mp) (s l : Addr) (ns : List Int) : Prop where
  P : PSt M s l ns
  X : Ext S M0 M
  S : S s
theorem LS.zero (P : PSt M s l ns) (h : S s) : LS S M M s l ns := ⟨P, .refl, h⟩
theorem LS.new (J : LS S M0 M s l ns) (hp : M p = none) : LS S M0 (DL.put M p o) s l ns := ⟨J.P.new hp, J.X.trans (.lay hp), J.S⟩
theorem LS.at_ (J : LS S M0 M s l ns) (h : M0 p = some o) (n : ¬ S p) : M p = some o := J.X _ _ n h
/-- a thing of one's own -/
structure Own (S : Addr → Prop) (M0 M : Mp) (s l p : Addr) (o : MO) : Prop where
  a : M p = some o
  z : M0 p = none ∨ S p
  ns : p ≠ s
  nl : p ≠ l
theorem LS.zeroA (J : LS S M0 M s l ns) (hp : M p = none) : M0 p = none ∨ S p := by
  by_cases h : S p
  · exact .inr h
  · refine .inl ?_
    cases e : M0 p with
    | none => rfl
    | some o => rw [J.X p o h e] at hp; cases hp
theorem Own.new (J : LS S M0 M s l ns) (hp : M p = none) : Own S M0 (DL.put M p o) s l p o := ⟨put_same, J.zeroA hp, (J.P.s_some hp).1, (J.P.s_some hp).2⟩
theorem LS.set (J : LS S M0 M s l ns) (h : Own S M0 M s l p u) : LS S M0 (DL.put M p o) s l ns := ⟨J.P.put h.ns h.nl, fun a v n e => by
  have := J.X a v n e
  rw [put_ne]
  · exact this
  · rintro rfl
    rcases h.z with z | z
    · rw [z] at e; cases e
    · exact n z, J.S⟩
theorem Own.set (h : Own S M0 M s l p u) : Own S M0 (DL.put M p o) s l p o := ⟨put_same, h.z, h.ns, h.nl⟩
theorem Own.ext (h : Own S M0 M s l p o) (e : Ext (Is s) M M') : Own S M0 M' s l p o := ⟨e _ _ h.ns h.a, h.z, h.ns, h.nl⟩
theorem Own.extS (h : Own S M0 M s l p o) {S2 : Addr → Prop} (n : ¬ S2 p) (e : Ext S2 M M') : Own S M0 M' s l p o := ⟨e _ _ n h.a, h.z, h.ns, h.nl⟩
theorem Own.put (h : Own S M0 M s l p o) (n : q ≠ p) : Own S M0 (DL.put M q u) s l p o := ⟨(put_ne (Ne.symm n)).trans h.a, h.z, h.ns, h.nl⟩
theorem Own.ne (h : Own S M0 M s l p o) (hq : M q = none) : q ≠ p := by rintro rfl; rw [h.a] at hq; cases hq
theorem Own.lay (h : Own S M0 M s l p o) (hq : M q = none) : Own S M0 (DL.put M q u) s l p o := h.put (h.ne hq)
theorem LS.pick (J : LS S M0 M s l ns) {limit : Int} (h0 : 0 < limit) (hl : limit.natAbs.log2 < 9000) (k : ∀ (r : Int) (M' : Mp), 0 ≤ r → r < limit → LS S M0 M' s l ns → Ext (Is s) M M' → Q (.int r) M') : spPick [.ref s, .int limit] M Q E :=
  ⟨s, l, ns, limit, rfl, J.P, h0, hl, fun r o h1 h2 h3 => by
    have e : Ext (Is s) M (DL.put M s o) := .set rfl
    exact k r _ h1 h2 ⟨h3, J.X.trans (e.one J.S), J.S⟩ e⟩
theorem log_small {i : Int} (h : i.natAbs < 2 ^ 40) : i.natAbs.log2 < 9000 := by
  by_cases e : i.natAbs = 0
  · rw [e]; decide
  · have := (Nat.log2_lt e).mpr h
    omega
theorem atI_in {xs : List D} {i : Int} (h0 : 0 ≤ i) (h1 : i < xs.length) : ∃ d, atI xs i = some d ∧ d ∈ xs ∧ xs[i.toNat]? = some d := by
  have h2 : i.toNat < xs.length := by omega
  refine ⟨xs[i.toNat], ?_, List.getElem_mem h2, by simp [h2]⟩
  unfold atI
  rw [ixN_in h0 h1]
  simp [h2]
/-- one out of a list -/
theorem LS.pickAt (J : LS S M0 M s l ns) {a : Addr} {vs : List D} (ha : M a = some (.lst vs)) (hn : a ≠ s) {n : Int} (e : n = vs.length) (h0 : 0 < vs.length) (h1 : vs.length < 1000000)
    (k : ∀ (v : D) (M' : Mp), v ∈ vs → LS S M0 M' s l ns → Ext (Is s) M M' → Q v M') : spPick [.ref s, .int n] M (fun y M2 => ixG (.ref a) y M2 Q) E := by
  subst e
  refine J.pick (by omega) (log_small (by omega)) fun r M' r0 r1 J' e => ?_
  have ha' := e _ _ hn ha
  obtain ⟨d, e1, e2, _⟩ := atI_in r0 r1
  have : ixG (.ref a) (.int r) M' Q = Q d M' := by
    unfold ixG
    simp only [seqOf, ha', Option.bind_some, e1]
  rw [this]
  exact k d M' e2 J' e
/-- one out of a written list -/
theorem LS.choose (J : LS S M0 M s l ns) {vs : List D} {n : Int} (hn : n = vs.length) (h0 : 0 < vs.length) (h1 : vs.length < 1000000) (k : ∀ (v : D) (M' : Mp), v ∈ vs → LS S M0 M' s l ns → Ext (Is s) M M' → Q v M') :
    ∀ p, M p = none → spPick [.ref s, .int n] (DL.put M p (.lst vs)) (fun y M2 => ixG (.ref p) y M2 Q) E := fun p hp =>
  (J.new hp).pickAt put_same (J.P.s_some hp).1 hn h0 h1 fun v M' hv J' e => k v M' hv J' (Ext.trans (.lay hp) e)
/-- one sign of a text -/
theorem LS.pickS (J : LS S M0 M s l ns) {z : Str} {n : Int} (h0 : 0 < n) (h1 : n ≤ z.length) (h2 : z.length < 1000000)
    (k : ∀ (c : Nat) (M' : Mp), c ∈ z.cps.toList → LS S M0 M' s l ns → Ext (Is s) M M' → Q (.str ⟨#[c]⟩) M') : spPick [.ref s, .int n] M (fun y M2 => ixG (.str z) y M2 Q) E := by
  refine J.pick (by omega) (log_small (by omega)) fun r M' r0 r1 J' e => ?_
  have hz : z.length = z.cps.toList.length := by simp [Str.length]
  have r2 : r.toNat < z.cps.toList.length := by omega
  have e1 : atI z.cps.toList r = some (z.cps.toList[r.toNat]) := by
    unfold atI
    rw [ixN_in r0 (by omega)]
    exact List.getElem?_eq_getElem r2
  have : ixG (.str z) (.int r) M' Q = (z.length ≤ sizeLine ∧ Q (.str ⟨#[z.cps.toList[r.toNat]]⟩) M') := by
    unfold ixG
    simp only [e1]
  rw [this]
  exact ⟨by rw [sizeLine_eq]; omega, k _ M' (List.getElem_mem r2) J' e⟩
end
end DL

set_option maxHeartbeats 4000000
namespace DL
open PySem PySem.Spec L2
/-- texts that are written -/
theorem ofS_inj {a b : String} : Str.ofString a = Str.ofString b ↔ a = b := by
  constructor
  · intro h
    rw [Str.ofString_eq_toList, Str.ofString_eq_toList] at h
    have h1 : (a.toList.map Char.toNat).toArray = (b.toList.map Char.toNat).toArray := congrArg Str.cps h
    have h2 : a.toList.map Char.toNat = b.toList.map Char.toNat := by simpa using h1
    have h3 : a.toList = b.toList := (List.map_inj_right (fun x y e => Char.ext (UInt32.toNat_inj.mp e))).mp h2
    exact String.toList_inj.mp h3
  · rintro rfl; rfl
/-! ### texts and tuples in readings -/
section
variable {M : Mp} {Q : DK} {a b : Str} {d e f : D} {ds : List D} {n : Bool} {p : Addr}
theorem eqD_str : eqD (.str a) (.str b) M Q = Q (.bl (decide (a = b))) M := by unfold eqD eqG; simp
theorem neD_str : neD (.str a) (.str b) M Q = Q (.bl (!decide (a = b))) M := by unfold neD eqG; simp
theorem ixG_nat {xs : List D} {k : Nat} (h : xs[k]? = some d) : ixG (.tup xs) (.int ((k : Nat) : Int)) M Q = Q d M := by
  unfold ixG
  simp only [atI_nat h]
theorem ixG_t0 : ixG (.tup (d :: ds)) (.int 0) M Q = Q d M := ixG_nat (k := 0) rfl
theorem ixG_t1 : ixG (.tup (d :: e :: ds)) (.int 1) M Q = Q e M := ixG_nat (k := 1) rfl
theorem ixG_t2 : ixG (.tup (d :: e :: f :: ds)) (.int 2) M Q = Q f M := ixG_nat (k := 2) rfl
theorem ixG_last : ixG (.tup (ds ++ [d])) (.int (-1)) M Q = Q d M := by
  have : atI (ds ++ [d]) (-1) = some d := by
    unfold atI ixN
    have e0 : (ds ++ [d]).length = ds.length + 1 := by simp
    rw [e0, if_neg (by omega), if_pos (by omega)]
    have e : (((ds.length + 1 : Nat) : Int) + (-1)).toNat = ds.length := by omega
    have e' : ((-1 : Int) + ((ds.length + 1 : Nat) : Int)).toNat = ds.length := by omega
    first
      | (rw [e]; simp)
      | (rw [e']; simp)
  simp [ixG, this]
theorem any_strs {hs : List Str} {x : Str} : ((hs.map D.str).any fun d => eqb d (.str x)) = decide (x ∈ hs) := by
  induction hs with
  | nil => simp
  | cons h hs ih =>
    simp only [List.map_cons, List.any_cons, ih, eqb, List.mem_cons]
    by_cases c : x = h
    · subst c; simp
    · have : (h == x) = false := by
        rw [Bool.eq_false_iff]
        intro z
        exact c (eq_of_beq z).symm
      simp [this, c]
theorem flat_strs {hs : List Str} : (hs.map D.str).all flatD = true := by
  induction hs with
  | nil => rfl
  | cons h hs ih => simp [flatD]
theorem inG_strs {hs : List Str} {x : Str} {a : Addr} (h : M a = some (.lst (hs.map D.str))) : inG n (.str x) (.ref a) M Q = Q (.bl (n != decide (x ∈ hs))) M := by
  unfold inG
  simp only [seqD, seqOf, h, flat_strs, any_strs, flatD, true_and]
theorem inG_lit {hs : List Str} {x : Str} (hd : ds = hs.map D.str) : inG n (.str x) (.ref p) (put M p (.lst ds)) Q = Q (.bl (n != decide (x ∈ hs))) (put M p (.lst ds)) := inG_strs (by rw [put_same, hd])
theorem isiG_str {K : PySem.W.Frag} : isiG K [.str a, .ty "str"] M Q = Q (.bl true) M := by simp [isiG, tyName, isB]
theorem lenG_tup : lenG [.tup ds] M Q = Q (.int (ds.length : Nat)) M := by simp [lenG, lenD]
theorem lenG_at {a : Addr} {xs : List D} (h : M a = some (.lst xs)) : lenG [.ref a] M Q = Q (.int (xs.length : Nat)) M := by simp [lenG, lenD, h]
theorem cut_from {xs : List D} {i : Nat} (h : i ≤ xs.length) : cutD xs (some (i : Int)) none = xs.drop i := by
  unfold cutD HT.sIx
  dsimp only
  rw [if_neg (by omega), Int.toNat_natCast, Nat.min_eq_left h, List.take_of_length_le (by rw [List.length_drop]; omega)]
theorem cut_to {xs : List D} {i : Nat} : cutD xs none (some (i : Int)) = xs.take i := by
  unfold cutD HT.sIx
  dsimp only
  rw [if_neg (by omega), Int.toNat_natCast]
  simp only [Nat.sub_zero, List.drop_zero]
  rw [List.take_eq_take_iff]
  omega
theorem cut_in {xs : List D} {i j : Nat} (h : i ≤ xs.length) : cutD xs (some (i : Int)) (some (j : Int)) = (xs.take j).drop i := by
  unfold cutD HT.sIx
  dsimp only
  rw [if_neg (by omega), if_neg (by omega), Int.toNat_natCast, Int.toNat_natCast, Nat.min_eq_left h, List.drop_take, List.take_eq_take_iff, List.length_drop]
  omega
/-- xs[2:-1] -/
theorem cut_2m {x y z : D} : cutD (x :: y :: (ds ++ [z])) (some 2) (some (-1)) = ds := by
  have e0 : (x :: y :: (ds ++ [z])).length = ds.length + 3 := by simp
  unfold cutD HT.sIx
  dsimp only
  rw [e0, if_pos (show (-1 : Int) < 0 by omega), if_neg (show ¬ (2 : Int) < 0 by omega)]
  have e1 : min (Int.toNat 2) (ds.length + 3) = 2 := by have : Int.toNat 2 = 2 := rfl; omega
  rw [e1]
  show List.take _ (ds ++ [z]) = ds
  have : ∀ k, k = ds.length → List.take k (ds ++ [z]) = ds := by rintro k rfl; simp
  exact this _ (by omega)
theorem isi_int {K : PySem.W.Frag} {M : Mp} {Q : DK} {i : Int} : isiG K [.int i, .ty "int"] M Q = Q (.bl true) M := by simp [isiG, tyName, isB]
theorem isi_int_s {K : PySem.W.Frag} {M : Mp} {Q : DK} {i : Int} : isiG K [.int i, .ty "str"] M Q = Q (.bl false) M := by simp [isiG, tyName, isB]
theorem isi_int_t {K : PySem.W.Frag} {M : Mp} {Q : DK} {i : Int} : isiG K [.int i, .ty "tuple"] M Q = Q (.bl false) M := by simp [isiG, tyName, isB]
theorem isi_tup {K : PySem.W.Frag} {M : Mp} {Q : DK} {i : List D} : isiG K [.tup i, .ty "tuple"] M Q = Q (.bl true) M := by simp [isiG, tyName, isB]
theorem isi_tup_s {K : PySem.W.Frag} {M : Mp} {Q : DK} {i : List D} : isiG K [.tup i, .ty "str"] M Q = Q (.bl false) M := by simp [isiG, tyName, isB]
theorem isi_tup_i {K : PySem.W.Frag} {M : Mp} {Q : DK} {i : List D} : isiG K [.tup i, .ty "int"] M Q = Q (.bl false) M := by simp [isiG, tyName, isB]
theorem isi_str_i {K : PySem.W.Frag} {M : Mp} {Q : DK} {i : Str} : isiG K [.str i, .ty "int"] M Q = Q (.bl false) M := by simp [isiG, tyName, isB]
theorem isi_str_t {K : PySem.W.Frag} {M : Mp} {Q : DK} {i : Str} : isiG K [.str i, .ty "tuple"] M Q = Q (.bl false) M := by simp [isiG, tyName, isB]
end
end DL

set_option maxHeartbeats 4000000
namespace DL
open PySem PySem.Spec L2
theorem LS.pickAtW {S : Addr → Prop} {M0 M : Mp} {s l : Addr} {ns : List Int} {Q : DK} {E : EK} (J : LS S M0 M s l ns) {a : Addr} {vs : List D} (ha : M a = some (.lst vs)) (hn : a ≠ s) {n : Int} (e : n = vs.length) (h0 : 0 < vs.length) (h1 : vs.length ≤ 16777216)
    (k : ∀ (v : D) (M' : Mp), v ∈ vs → LS S M0 M' s l ns → Ext (Is s) M M' → Q v M') : spPick [.ref s, .int n] M (fun y M2 => ixG (.ref a) y M2 Q) E := by
  subst e
  refine J.pick (by omega) (log_small (by omega)) fun r M' r0 r1 J' e => ?_
  have ha' := e _ _ hn ha
  obtain ⟨d, e1, e2, _⟩ := atI_in r0 r1
  have : ixG (.ref a) (.int r) M' Q = Q d M' := by
    unfold ixG
    simp only [seqOf, ha', Option.bind_some, e1]
  rw [this]
  exact k d M' e2 J' e
theorem LS.chooseP {S : Addr → Prop} {M0 M : Mp} {s l : Addr} {ns : List Int} (J : LS S M0 M s l ns) {vs : List D} {n : Int} {Q : Addr → DK} {E : Addr → EK} (hn : n = vs.length) (h0 : 0 < vs.length) (h1 : vs.length < 1000000) (k : ∀ (p : Addr) (v : D) (M' : Mp), v ∈ vs → LS S M0 M' s l ns → Ext (Is s) M M' → Q p v M') :
    ∀ p, M p = none → spPick [.ref s, .int n] (DL.put M p (.lst vs)) (fun y M2 => ixG (.ref p) y M2 (Q p)) (E p) := fun p hp =>
  (J.new hp).pickAt put_same (J.P.s_some hp).1 hn h0 h1 fun v M' hv J' e => k p v M' hv J' (Ext.trans (.lay hp) e)
/-! ### a comprehension whose items are drawn -/
theorem dCL_draws {α : Type} (f : α → D) (G : α → Prop) {g : D → Sl → Sl} {te : DE} {kp : Mp → Prop} {p : Addr} {τ : Sl} {F : Mp → Prop} {its : List D} {S : Addr → Prop} {M0 M : Mp} {s l : Addr} {ns : List Int}
    (J : LS S M0 M s l ns) (hp : Own S M0 M s l p (.lst [])) (hl : its.length ≤ 1000000) (hk : ∀ M', LS S M0 M' s l ns → Ext (fun a => a = s ∨ a = p) M M' → kp M')
    (step : ∀ (i : Nat) (d : D) (M' : Mp) (k : D → Mp → Prop), its[i]? = some d → LS S M0 M' s l ns → Ext (fun a => a = s ∨ a = p) M M' → (∀ a M2, G a → LS S M0 M2 s l ns → Ext (Is s) M' M2 → k (f a) M2) → te (g d τ) M' k noE)
    (done : ∀ (xs : List α) (M' : Mp), xs.length = its.length → (∀ a, a ∈ xs → G a) → LS S M0 M' s l ns → Ext (fun a => a = s ∨ a = p) M M' → Own S M0 M' s l p (.lst (xs.map f)) → F M') :
    dCL g dYes te kp p τ F its M := by
  refine dCL_inv (fun j M' => LS S M0 M' s l ns ∧ Ext (fun a => a = s ∨ a = p) M M' ∧ ∃ xs : List α, xs.length = j ∧ (∀ a, a ∈ xs → G a) ∧ Own S M0 M' s l p (.lst (xs.map f))) ?_ ?_ ?_ ⟨J, .refl, [], rfl, (fun _ h => nomatch h), hp⟩
  · exact fun i M' _ h => hk M' h.1 h.2.1
  · rintro i d M' nxt hd ⟨J', e', xs, hx, hG, hO⟩ hnx
    simp only [dYes, if_true]
    refine step i d M' _ hd J' e' fun a M2 ga J2 e2 => ?_
    have hO2 := hO.ext e2
    have hi := (List.getElem?_eq_some_iff.mp hd).1
    simp only [hO2.a, List.length_map]
    refine ⟨by rw [sizeLine_eq]; omega, hnx _ ⟨J2.set hO2, (e'.trans (e2.wide fun x z => .inl z)).trans (.set (.inr rfl)), xs ++ [a], by simp [hx], fun b hb => ?_, ?_⟩⟩
    · rcases List.mem_append.mp hb with h | h
      · exact hG b h
      · rw [List.mem_singleton.mp h]; exact ga
    · rw [List.map_append]
      exact hO2.set
  · rintro M' ⟨J', e', xs, hx, hG, hO⟩
    exact done xs M' hx hG J' e' hO
/-- a read-only walk: nothing is laid or drawn in the items -/
theorem dCL_pure {α : Type} (f : α → D) {g : D → Sl → Sl} {tt : DT} {te : DE} {kp : Mp → Prop} {p : Addr} {τ : Sl} {F : Mp → Prop} {its : List D} {M : Mp}
    (as : List (Option α)) (ha : as.length = its.length) (hl : its.length ≤ 16000000) (hk : ∀ xs, kp (put M p (.lst xs)))
    (step : ∀ (i : Nat) (d : D) (a : Option α) (xs : List D) (k : D → Mp → Prop) (k2 : Mp → Prop), its[i]? = some d → as[i]? = some a → (∀ x, a = some x → k (f x) (put M p (.lst xs))) → (a = none → k2 (put M p (.lst xs))) →
      tt (g d τ) (put M p (.lst xs)) (fun b M1 => if b = true then te (g d τ) M1 k noE else k2 M1) noE)
    (done : F (put M p (.lst ((as.filterMap id).map f)))) :
    dCL g tt te kp p τ F its (put M p (.lst [])) := by
  refine dCL_inv (fun j M' => M' = put M p (.lst (((as.take j).filterMap id).map f))) ?_ ?_ ?_ (by simp)
  · rintro i M' _ rfl; exact hk _
  · rintro i d M' nxt hd rfl hnx
    have hi := (List.getElem?_eq_some_iff.mp hd).1
    have hi2 : i < as.length := by omega
    refine step i d as[i] _ _ nxt hd (List.getElem?_eq_getElem hi2) (fun x hx => ?_) fun hx => ?_
    · simp only [put_same]
      refine ⟨?_, hnx _ ?_⟩
      · rw [sizeLine_eq, List.length_map]
        have h1 := List.length_filterMap_le id (as.take i)
        rw [List.length_take] at h1
        omega
      · rw [put_put, List.take_succ, List.getElem?_eq_getElem hi2, hx]
        simp
    · refine hnx _ ?_
      rw [List.take_succ, List.getElem?_eq_getElem hi2, hx]
      simp
  · rintro M' rfl
    rw [← ha, List.take_length]
    exact done
/-- a test whose answer is known -/
theorem ifS_of {c : DT} {t u : DS} {Dn : DN} {τ : Sl} {M : Mp} (b : Bool) (h : ∀ Q E, Q b M → c τ M Q E) (k : if b = true then t Dn τ M else u Dn τ M) : dIfS c t u Dn τ M := h _ _ k
theorem ifS_p {c : DT} {t u : DS} {Dn : DN} {τ : Sl} {M : Mp} (p : Prop) [Decidable p] (h : ∀ (Q : Bool → Mp → Prop) (E : EK), (p → Q true M) → (¬ p → Q false M) → c τ M Q E) (yes : p → t Dn τ M) (no : ¬ p → u Dn τ M) : dIfS c t u Dn τ M :=
  h (fun b M1 => if b = true then t Dn τ M1 else u Dn τ M1) _ (fun z => by show (if true = true then _ else _); rw [if_pos rfl]; exact yes z) fun z => by show (if false = true then _ else _); rw [if_neg Bool.false_ne_true]; exact no z
theorem lock_undo {M : Mp} {a p : Addr} {o u v : MO} (ha : M a = some o) (hp : put M a u p = none) : put (put (put M a u) p v) a o = put M p v := by
  have n : a ≠ p := by rintro rfl; rw [put_same] at hp; cases hp
  funext b
  by_cases c : b = a
  · subst c; rw [put_same, put_ne n, ha]
  · rw [put_ne c]
    by_cases c2 : b = p
    · subst c2; rw [put_same, put_same]
    · rw [put_ne c2, put_ne c2, put_ne c]
/-- a list out of the keys of a dict -/
theorem lock_comp {α : Type} (f : α → D) {i x j : Nat} {tt : DT} {te : DE} {τ : Sl} {M : Mp} {Dn : DN} {a : Addr} {kvs : List (Key × D)} (e : slot τ i = some (.ref a)) (ha : M a = some (.dk kvs)) (hl : kvs.length ≤ 1000000)
    (as : List (Option α)) (las : as.length = kvs.length)
    (step : ∀ (n : Nat) (q : Key × D) (o : Option α) (M' : Mp) (k : D → Mp → Prop) (k2 : Mp → Prop), kvs[n]? = some q → as[n]? = some o → M' a = some (.rdk kvs) → (∀ y, o = some y → k (f y) M') → (o = none → k2 M') →
      tt ((wipeD τ [x]).set x (some (ofKey q.1))) M' (fun b M1 => if b = true then te ((wipeD τ [x]).set x (some (ofKey q.1))) M1 k noE else k2 M1) noE)
    (nx : ∀ p, M p = none → Dn.nx (τ.set j (some (.ref p))) (put M p (.lst ((as.filterMap id).map f)))) :
    dLock (dAsg (dLc (dKeys (dVar i)) (fun d τ => τ.set x (some d)) tt te [x]) (dName j)) Dn τ M := by
  refine ⟨a, kvs, ha, ?_⟩
  simp only [dAsg, dLc, dKeys, dVar, e, put_same, dName, dLockN]
  refine ⟨by rw [sizeLine_eq]; omega, fun p hp => ?_⟩
  have n : a ≠ p := by rintro rfl; rw [put_same] at hp; cases hp
  refine dCL_pure f as (by rw [las, List.length_map]) (by rw [List.length_map]; omega) (fun xs => by rw [put_ne n, put_same]) (fun m d o xs k k2 hd ho h1 h2 => ?_) ?_
  · rw [List.getElem?_map] at hd
    cases hq : kvs[m]? with
    | none => rw [hq] at hd; cases hd
    | some q =>
      rw [hq] at hd
      cases hd
      exact step m q o _ k k2 hq ho (by rw [put_ne n, put_same]) h1 h2
  · refine ⟨by rw [put_ne n, put_same], ?_⟩
    rw [lock_undo ha hp]
    refine nx p ?_
    rw [put_ne (Ne.symm n)] at hp
    exact hp
theorem putKD_mem {l : List (Key × D)} {k : Key} {d : D} {q : Key × D} (h : q ∈ putKD l k d) : q = (k, d) ∨ q ∈ l := by
  unfold putKD at h
  split at h
  · obtain ⟨r, hr, rfl⟩ := List.mem_map.mp h
    split
    · rename_i c; left; rw [c]
    · exact .inr hr
  · rcases List.mem_append.mp h with h | h
    · exact .inr h
    · exact .inl (List.mem_singleton.mp h)
theorem putKD_ne {l : List (Key × D)} {k : Key} {d : D} : putKD l k d ≠ [] := by
  unfold putKD
  split
  · rename_i h
    cases l with
    | nil => simp at h
    | cons a r => simp
  · simp
theorem valD_mem {l : List (Key × D)} {q : Key × D} (h : q ∈ l) : ∃ v, valD l q.1 = some v ∧ (q.1, v) ∈ l := by
  induction l with
  | nil => cases h
  | cons r l ih =>
    rw [valD_cons]
    by_cases c : r.1 = q.1
    · exact ⟨r.2, by rw [if_pos c], by rw [← c]; exact List.mem_cons_self⟩
    · rw [if_neg c]
      rcases List.mem_cons.mp h with rfl | h
      · exact absurd rfl c
      · obtain ⟨v, h1, h2⟩ := ih h
        exact ⟨v, h1, List.mem_cons_of_mem _ h2⟩
end DL

set_option maxHeartbeats 4000000
namespace DL
open PySem PySem.Spec L2
/-! ### words of small letters -/
def low (x : Str) : Prop := ∀ c, c ∈ x.cps.toList → 97 ≤ c ∧ c ≤ 122
theorem app_cps {a b : Str} : (a ++ b).cps = a.cps ++ b.cps := rfl
theorem low_app {a b : Str} (ha : low a) (hb : low b) : low (a ++ b) := fun c hc => by
  rw [app_cps, Array.toList_append, List.mem_append] at hc
  exact hc.elim (ha c) (hb c)
theorem low_one {c : Nat} (h : 97 ≤ c ∧ c ≤ 122) : low ⟨#[c]⟩ := fun d hd => by
  have : d = c := by simpa using hd
  subst this; exact h
theorem low_nil : low "" := fun c hc => by
  have : ("" : Str).cps.toList = [] := by decide
  rw [this] at hc; cases hc
theorem low_joinS : ∀ {xs : List Str}, (∀ x, x ∈ xs → low x) → low (Str.join "" xs)
  | [], _ => low_nil
  | [x], h => h x List.mem_cons_self
  | x :: y :: r, h => low_app (low_app (h x List.mem_cons_self) low_nil) (low_joinS fun z hz => h z (List.mem_cons_of_mem _ hz))
theorem low_join {xs : List Str} (h : ∀ x, x ∈ xs → low x) : low (Txt.join "" xs) := by
  show low (Builtin.Str.glued (PySem.Str.ofString "") xs)
  rw [StrLaws.glued_eq_join]
  exact low_joinS h
theorem low_ok {x : Str} (h : low x) : ok (.str x) = true := by
  rw [ok, Array.all_eq_true]
  intro i hi
  have := h x.cps[i] (by simp)
  simp
  omega
theorem low_letters : low "abcdefghijklmnopqrstuvwxyz" := by unfold low; decide +kernel
theorem letters_len : ("abcdefghijklmnopqrstuvwxyz" : Str).cps.toList.length = 26 := by decide +kernel
theorem ixG_letter {i : Int} {M : Mp} {Q : DK} (h0 : 0 ≤ i) (h1 : i < 26) (k : ∀ x, low x → x.length = 1 → Q (.str x) M) : ixG (.str "abcdefghijklmnopqrstuvwxyz") (.int i) M Q := by
  have hl := letters_len
  have h2 : i.toNat < ("abcdefghijklmnopqrstuvwxyz" : Str).cps.toList.length := by omega
  have e1 : atI ("abcdefghijklmnopqrstuvwxyz" : Str).cps.toList i = some (("abcdefghijklmnopqrstuvwxyz" : Str).cps.toList[i.toNat]) := by
    unfold atI
    rw [ixN_in h0 (by omega)]
    exact List.getElem?_eq_getElem h2
  unfold ixG
  simp only [e1]
  refine ⟨?_, k _ (low_one (low_letters _ (List.getElem_mem h2))) rfl⟩
  have : ("abcdefghijklmnopqrstuvwxyz" : Str).length = 26 := by decide +kernel
  rw [this, sizeLine_eq]; omega
theorem LS.letter {S : Addr → Prop} {M0 M : Mp} {s l : Addr} {ns : List Int} {Q : DK} {E : EK} {n : Int} (J : LS S M0 M s l ns) (h0 : 0 < n) (h1 : n ≤ 26) (k : ∀ (x : Str) (M' : Mp), low x → x.length = 1 → LS S M0 M' s l ns → Ext (Is s) M M' → Q (.str x) M') :
    spPick [.ref s, .int n] M (fun y M2 => ixG (.str "abcdefghijklmnopqrstuvwxyz") y M2 Q) E :=
  J.pick h0 (log_small (by omega)) fun r M' r0 r1 J' e => ixG_letter r0 (by omega) fun x hx hl => k x M' hx hl J' e
end DL

set_option maxHeartbeats 4000000
namespace DL
open PySem PySem.Spec L2
open PyProof.Rows (envOfC)
/-! ### exceptions with attributes of their own -/
section
variable {X : Cx} {W : DW} {pos p p2 np pos' : Pos}
/-- isinstance(e, C) of the exception that the suite holds, attributes or not -/
def isxF (K : PySem.W.Frag) (y : DX) (a : Addr) : DG := fun ds M Q => match ds with
  | [.ref a', c] => a' = a ∧ (∀ dd, y.d = some dd → ∃ fs, M dd = some (.xd fs)) ∧ ∃ D b cv, y.cls = .ref D ∧ ExcC K D ∧ ((∃ C, c = .ref C ∧ cv = .ref C) ∨ ∃ n, c = .ty n ∧ cv = .type n) ∧ PySem.W.kitOne K (.ref D) cv = some b ∧ Q (.bl b) M
  | _ => False
theorem call_isxF {y : DX} {a : Addr} {oe : Obj} {pn : List (Addr × Obj)} (hz : Zc y.cls y.d oe) (hf : ∃ vs, oe.data = .fields vs) : CallR (X.suite a ((a, oe) :: pn)) (.builtin "isinstance") (liftC X.K (isxF X.K y a)) := by
  intro pins s σ H xs us Q I rs ⟨ds, M, Qd, q, r, hr, k⟩
  unfold isxF at q
  split at q
  · rename_i a' c
    obtain ⟨rfl, hd, D, b, cv, ec, C, hc, kk, q⟩ := q
    obtain ⟨v, v', rfl, rv, rv'⟩ := r.two
    obtain ⟨u1, u2, rfl, r1, r2⟩ := vals2 rs
    rw [rv.toRef] at r1
    cases (show u1 = Value.ref a' from r1)
    have e2 : u2 = cv := by
      rcases hc with ⟨C', rfl, rfl⟩ | ⟨n, rfl, rfl⟩
      · rw [rv'.toRef] at r2; exact r2
      · rw [rv'.toTy] at r2; exact r2
    subst e2
    obtain ⟨hget, _⟩ := I.pin (a', oe) (List.mem_append.mpr (.inl List.mem_cons_self))
    obtain ⟨vs, hv⟩ := hf
    have J : ∃ od, PySem.W.InstAt s.heap a' oe D od := by
      cases ed : y.d with
      | none => exact ⟨none, hget, by rw [hz.1]; exact ec, by unfold PySem.W.notCls; rw [hv] <;> rfl, by rw [hz.2, ed]; trivial⟩
      | some dd =>
        obtain ⟨fs, hm⟩ := hd dd ed
        obtain ⟨ws, hw, _⟩ : ∃ ws, H dd = some (.xd ws) ∧ FD X.K H ws fs := hr dd _ hm
        have ho : ObjOk X.prog X.w H s.heap dd (.xd ws) := I.hok dd _ hw
        obtain ⟨mA, hns, _⟩ := ho
        obtain ⟨od, hod, _⟩ := lookIn_ns hns
        exact ⟨some od, hget, by rw [hz.1]; exact ec, by unfold PySem.W.notCls; rw [hv] <;> rfl, by rw [hz.2, ed]; exact hod⟩
    obtain ⟨od, J⟩ := J
    have hcl : (PySem.W.clsIn X.K D).isSome = true := by
      obtain ⟨cd, hcd, _⟩ := PySem.W.any_some C.hd
      rw [hcd]; rfl
    exact PySem.W.kia_one (PySem.W.kitx_exc hcl C.hg C.hk C.hs C.ha C.hn C.ht C.hm) I.kIn J kk (fun z => nomatch z) fun tk => ⟨.bl b, H, I.kept (t' := tk) fun _ _ z => z, rfl, k _ M _ H q .refl (.bl _) hr⟩
  · exact q.elim
/-- e.f of the exception that the suite holds -/
def dXf (K : PySem.W.Frag) (y : DX) (a : Addr) (te : DE) (f : Str) : DE := fun τ M Q E => te τ M (fun x M1 => x = .ref a ∧ ∃ C dd fs v, y.cls = .ref C ∧ XfC K C ∧ PySem.W.findIn K (.ref C) f = some none ∧ y.d = some dd ∧ M1 dd = some (.xd fs) ∧ fs.lookup f = some v ∧ Q v M1) E
theorem pd_xf {y : DX} {a : Addr} {oe : Obj} {pn : List (Addr × Obj)} {e : Expr} {te : DE} {n : Str} (hz : Zc y.cls y.d oe) (hf : ∃ vs, oe.data = .fields vs) (he : PD (X.suite a ((a, oe) :: pn)) W e te) (hb : attributeBase e n X.env (eval e X.env) = eval e X.env := by rfl) :
    PD (X.suite a ((a, oe) :: pn)) W (.Attribute e n pos) (dXf X.K y a te n) := by
  by_cases hC : ∃ C, y.cls = .ref C ∧ XfC X.K C ∧ PySem.W.findIn X.K (.ref C) n = some none
  · obtain ⟨C, ec, T, hno⟩ := hC
    have R := pe_xf (cls := y.cls) (d := y.d) (pos := pos) T hno hz hf he.run hb
    refine ⟨PEimp R fun σ H Q ⟨τ, M, Qd, Ed, hs, hr, q, we, k⟩ => ⟨τ, M, _, Ed, hs, hr, q, we, fun x M1 v H1 q1 e1 r1 h1 => ?_⟩⟩
    obtain ⟨rfl, C', dd, fs, d, ec', _, _, ed, hm, hl, q1⟩ := q1
    obtain ⟨ws, hw, fd⟩ : ∃ ws, H1 dd = some (.xd ws) ∧ FD X.K H1 ws fs := h1 dd _ hm
    obtain ⟨u, hu, ru⟩ := fd.look hl
    exact ⟨r1.toRef, ec, dd, ws, u, ed, hw, hu, k _ M1 _ H1 q1 e1 ru h1⟩
  · refine ⟨⟨fun pins s σ H Q I ⟨τ, M, Qd, Ed, hs, hr, q, we, k⟩ => ?_⟩⟩
    refine attr_of hb (thn (he.run.run pins s σ H (fun _ _ => False) I ⟨τ, M, _, Ed, hs, hr, q, we, fun x M1 v H1 q1 _ _ _ => ?_⟩) fun u s1 ⟨_, _, _, _, z⟩ => z.elim)
    obtain ⟨_, C', _, _, _, ec', hx, hn, _⟩ := q1
    exact hC ⟨C', ec', hx, hn⟩
end
/-! ### raise C(e, ..), C with an __init__ of its own -/
/-- what such an __init__ keeps: attributes fs -/
def spOI (C : Addr) (fs : List Str) : Sp := fun vs H Q _ => ∃ (a : Addr) (ys : List V), vs = .ref a :: ys ∧ ys.length = fs.length ∧ H a = some (exo a C none) ∧ ∀ dx, H dx = none → dx ≠ a → Q .non (upd (upd H dx (exd dx (fs.zip ys).reverse)) a (exo a C (some dx)))
section
variable {P : Program} {w : World} {K : PySem.W.Frag} {mg : Str → Option Value} {base : Heap}
theorem okI1 {qual f : Str} {st : Stmt} {fI : Addr} {fd : FuncData} {N : List Str} {C : Addr} {k : Nat} (F : L2.Fun K "__init__" qual st fI fd) (S : FnScope N N (defScope st)) (hN : N.length = 2) (T : OexC K C) (no : PySem.W.findIn K (.ref C) f = some none)
    (hbody : ∀ (cdv : Value) (A : Around) (outer : List Env) (s : Shared) (H : Hp) (E : XK), PSs (cxOf (L2.CX P w) P w K mg base N qual (defScope st) fI cdv A outer s H E) (defBody st) (tOst K f (tVar 0) (tVar 1))) :
    FnOk P w K mg base (L2.CX P w) (k + 1) fI fd N (spOI C [f]) := by
  refine F.okX S (fun vs H Q E ⟨a, ys, e, hl, _⟩ => by rw [e, List.length_cons, hl, hN]; rfl) fun cdv A outer s H vs Q E hr ⟨a, ys, e, hl, ha, k⟩ => ⟨_, hbody cdv A outer s H E, ?_⟩
  subst e
  obtain ⟨y, rfl⟩ : ∃ y, ys = [y] := by
    cases ys with
    | nil => cases hl
    | cons y r =>
      cases r with
      | nil => exact ⟨y, rfl⟩
      | cons _ _ => simp at hl
  have e0 : L2.start N [.ref a, y] = [some (.ref a), some y] := by
    unfold L2.start
    rw [hN]
    rfl
  rw [e0]
  exact ⟨y, rfl, .ref a, rfl, a, C, rfl, T, no, .inl ⟨ha, fun dx hd ne => k dx hd ne⟩⟩
/-- the exception class x at C with attributes fs -/
structure RaiD (P : Program) (w : World) (K : PySem.W.Frag) (mg : Str → Option Value) (base : Heap) (k : Nat) (x : Str) (C : Addr) (fs : List Str) : Prop where
  ex : ∃ (fI : Addr) (fd : FuncData) (ps : List Str), OexC K C ∧ PySem.W.findIn K (.ref C) "__init__" = some (some (.ref fI)) ∧ PySem.W.typeIn K (.ref fI) = some (.type "function") ∧ FnOk P w K mg base (L2.CX P w) k fI fd ps (spOI C fs) ∧ Binds K fd ps [] ∧ mg x = some (.ref C)
end
def dRaiseI (C : Addr) (fs : List Str) (ta : DA) : DS := fun Dn τ M => ta τ M (fun ds M1 => ds.length = fs.length ∧ ∀ dd, M1 dd = none → Dn.ex ⟨.ref C, some dd, (fs.zip ds).reverse⟩ τ M1) (exOf Dn τ)
theorem FD.app {K : PySem.W.Frag} {H : Hp} : ∀ {vs : List (Str × V)} {fs : List (Str × D)} {us : List (Str × V)} {gs : List (Str × D)}, FD K H vs fs → FD K H us gs → FD K H (vs ++ us) (fs ++ gs)
  | [], [], _, _, _, g => g
  | _ :: _, _ :: _, _, _, h, g => ⟨h.1, h.2.1, FD.app h.2.2 g⟩
  | [], _ :: _, _, _, h, _ => h.elim
  | _ :: _, [], _, _, h, _ => h.elim
theorem FD.rev {K : PySem.W.Frag} {H : Hp} : ∀ {vs : List (Str × V)} {fs : List (Str × D)}, FD K H vs fs → FD K H vs.reverse fs.reverse
  | [], [], _ => True.intro
  | p :: ps, q :: qs, h => by
    rw [List.reverse_cons, List.reverse_cons]
    exact FD.app (FD.rev h.2.2) ⟨h.1, h.2.1, True.intro⟩
  | [], _ :: _, h => h.elim
  | _ :: _, [], h => h.elim
theorem FD.zip {K : PySem.W.Frag} {H : Hp} : ∀ {fs : List Str} {vs : List V} {ds : List D}, RpL K H vs ds → FD K H (fs.zip vs) (fs.zip ds)
  | [], _, _, _ => by simp [FD]
  | _ :: _, _, _, .nil => by simp [FD]
  | f :: fs, _, _, .cons r l => ⟨rfl, r, FD.zip l⟩
section
variable {X : Cx} {W : DW} {pos p pos' : Pos} {e : Expr} {es : List Expr} {ta : DA} {x : Str} {C : Addr} {fs : List Str} {k : Nat}
theorem psd_raiseI (R : RaiD X.prog X.w X.K X.mg X.base k x C fs) (hk : fs.length ≤ 1000) (hr : Room (k + 1) X.A) (hc : X.calm = true) (tk : Takes X (liftW X.K W)) (hg : Gl X x) (ha : PAD X W (e :: es) ta)
    (hdb : (x == ("__debug__" : Str)) = false := by decide) (he : starEach (e :: es) X.env = (false, eval e X.env) :: starEach es X.env := by rfl) (hpl : (backTo pos' (starEach es X.env)).any (·.1) = false := by rfl) :
    PSD X W (.Raise (some (.Call (.Name x p) (e :: es) [] pos')) none pos) (dRaiseI C fs ta) := by
  obtain ⟨fI, fd, ps, T, iC, tI, F, hb, hm⟩ := R.ex
  have no : Passes (L2.CX X.prog X.w) X (fun _ _ _ => False) := fun _ _ _ _ _ _ _ c => by
    obtain ⟨_, _, _, _, _, _, _, _, _, _, _, _, z⟩ := c
    exact z.elim
  refine ⟨PSimp (ps_raise hc tk (pmk_oex (dvs := []) T iC tI F hr hb .nil no hg hm ha.run hdb he hpl)) fun De σ H ⟨τ, M, Dd, hs, hr, q, we, nc⟩ => ?_⟩
  refine ⟨τ, M, _, exOf Dd τ, hs, hr, q, (fun x M1 h => we x τ M1 h), fun ds M1 vs H1 q1 e1 r1 h1 => ⟨by rw [r1.length, q1.1]; exact hk, fun a ha => ?_⟩⟩
  refine ⟨a, vs, by rw [List.append_nil], by rw [r1.length, q1.1], upd_same, fun dx hd ne => ?_⟩
  have hd1 : H1 dx = none := by rw [upd_ne ne] at hd; exact hd
  refine ⟨rfl, dx, (fs.zip vs).reverse, upd_same, (upd_ne ne).trans upd_same, hd1, ?_⟩
  have eH : upd (del (upd (upd (upd H1 a (exo a C none)) dx (exd dx (fs.zip vs).reverse)) a (exo a C (some dx))) a) dx (.xd (fs.zip vs).reverse) = upd H1 dx (.xd (fs.zip vs).reverse) := by
    funext b
    by_cases c : b = dx
    · subst c; rw [upd_same, upd_same]
    · rw [upd_ne c, upd_ne c]
      by_cases c2 : b = a
      · subst c2; rw [del_same, ha]
      · rw [del_ne c2, upd_ne c2, upd_ne c, upd_ne c2]
  rw [eH]
  have t1 : TExt X.K H1 (upd H1 dx (.xd (fs.zip vs).reverse)) := .new hd1
  exact ⟨_, τ, M1, (hs.mono e1).mono t1, h1.fresh hd1, ⟨rfl, rfl, fun d2 e2 => by cases e2; exact ⟨_, upd_same, (FD.zip (r1.mono t1)).rev⟩⟩, we _ _ _ (q1.2 dx (h1.free hd1))⟩
end
end DL

set_option maxHeartbeats 4000000
namespace DL
open PySem PySem.Spec L2
open PyProof.Rows
/-! ### try with several clauses, named or not -/
structure Clause where
  c : Value
  i : Option Nat
  ts : Addr → Value → Option Addr → TS
def endAt (i : Option Nat) (De : Ends) : Ends := match i with
  | none => De
  | some j => ⟨fun σ H => De.nx (σ.set j none) H, De.rt, fun σ H => De.bk (σ.set j none) H, fun σ H => De.ct (σ.set j none) H⟩
def slotAt (i : Option Nat) (a : Addr) (σ : L2.St) : L2.St := match i with
  | none => σ
  | some j => σ.set j (some (.ref a))
def wAll (K : PySem.W.Frag) (Wo : WX) (De : Ends) : List Clause → WX
  | [] => Wo
  | k :: r => fun cls d σ H => ∃ b, PySem.W.exmOne K cls k.c = some b ∧ (b = true → ∀ a, H a = none → k.ts a cls d (endAt k.i De) (slotAt k.i a σ) H) ∧ (b = false → wAll K Wo De r cls d σ H)
def nameOk (X : Cx) (nm : Option Str) (i : Option Nat) : Prop := match nm, i with
  | none, none => True
  | some n, some j => X.N.Nodup ∧ X.N[j]? = some n ∧ X.env.kindOf n = some .local
  | _, _ => False
inductive HsOk (X : Cx) : List ExceptHandler → List Clause → Prop
  | nil : HsOk X [] []
  | cons {x : Str} {nm : Option Str} {k : Clause} {b0 : Stmt} {su : List Stmt} {p1 p2 : Pos} {hs : List ExceptHandler} {l : List Clause} (hc : Names X x k.c) (hn : nameOk X nm k.i)
      (body : ∀ (a : Addr) (oe : Obj) (cls : Value) (d : Option Addr) (pn : List (Addr × Obj)), Zc cls d oe → (∃ vs, oe.data = .fields vs) → PSs (X.suite a ((a, oe) :: pn)) (b0 :: su) (k.ts a cls d)) (r : HsOk X hs l) :
      HsOk X (.ExceptHandler (some (.Name x p1)) nm (b0 :: su) p2 :: hs) (k :: l)
section
variable {X : Cx} {body : List Stmt} {h0 : ExceptHandler} {hs : List ExceptHandler} {l : List Clause} {pos : Pos} {tb : WX → TS} {Wo : WX}
theorem ps_try_all (e1 : X.stack = X.env :: X.outer) (e2 : X.env.frame = some X.env.locals) (tk : Takes X Wo)
    (hb : ∀ (W' : WX) (pn : List (Addr × Obj)) (xe : Value → Shared → Prop), Takes (X.tr pn xe) W' → PassesOwn (model X.prog X.w) X.A X.env xe → PSs (X.tr pn xe) body (tb W')) (hh : HsOk X (h0 :: hs) l) :
    PS X (.Try body (h0 :: hs) [] [] pos) (fun De σ H => tb (wAll X.K Wo De l) De σ H) := by
  constructor
  intro pins s σ H De I q
  have okX := I.ok
  have frX : X.A.frames = some (X.env :: X.outer) := okX.frames.trans (by rw [e1])
  -- a caught exception runs through the clauses
  have caughtAt : ∀ (u : Value) (t : Shared), XE (X.tr (X.pn ++ pins) (fun _ _ => True)) (wAll X.K Wo De l) u t → wpAny (model X.prog X.w) X.A (noteFrame u X.env) (fun _ t1 => wpAny (model X.prog X.w) X.A (setFlight u none) (fun _ t2 => wpAny (model X.prog X.w) X.A (handleBy u X.env (h0 :: hs)) (SP X pins De) X.xe t2) X.xe t1) X.xe t := by
    rintro u t ⟨a, B, sI, pins', σ', H', cls, d, rfl, J0, nb, up, sky, na, os, ag, w⟩
    have J : Inv X pins σ' H' sI := J0.ofTry okX
    have sky1 : Sky B (X.env :: X.outer) a (Zc cls d) X.env.locals t.heap := e1 ▸ sky
    refine Sky.land Zc.steady frX e2 sky1 fun g fg ug => ?_
    have Jg : Inv X pins σ' H' { t with heap := g } := J.landed nb fg.1 (up.trans ug) os ag
    obtain ⟨og, vg, hg, zg, dg⟩ := fg.there
    have away : a ∉ frs (X.env :: X.outer) := fun hm => by
      obtain ⟨_, o', e', no⟩ := fg.2.2.1.mem hm
      cases hg.symm.trans e'
      exact no _ dg
    have aL : a ≠ X.env.locals := fun z => away (by rw [z]; exact List.mem_filterMap.mpr ⟨X.env, List.mem_cons_self, e2⟩)
    have aF : a ∉ X.fs := fun hm => by
      obtain ⟨v, hv, qv⟩ := List.mem_filterMap.mp hm
      exact away (List.mem_filterMap.mpr ⟨v, List.mem_cons_of_mem _ hv, qv⟩)
    have Sg := Jg.suite hg dg na aL aF
    have go : ∀ {hs' : List ExceptHandler} {l' : List Clause}, HsOk X hs' l' → wAll X.K Wo De l' cls d σ' H' → wpAny (model X.prog X.w) X.A (handleBy (.ref a) X.env hs') (SP X pins De) X.xe { t with heap := g } := by
      intro hs' l' ok
      induction ok with
      | nil =>
        intro wn
        apply wpAny_handleBy_nil
        obtain ⟨_, _, _, oe, vs, T, oT, _, h1, _, h2, h3, _⟩ := id fg
        have out : wpAny (model X.prog X.w) X.A (setFlight (.ref a) X.env.frame) (fun _ t4 => wpAny (model X.prog X.w) X.A (throw (.ref a) : Sem Flow) (SP X pins De) X.xe t4) X.xe { t with heap := g } := by
          rw [e2]
          exact HandSPX.setFlight_upZ fg fun g4 sk4 u4 => wpAny_throw (tk _ _ ⟨a, B, sI, pins, σ', H', cls, d, rfl, J, nb, (up.trans ug).trans u4, .inr (.inr (by rw [e1]; exact sk4)), na, os, ag, wn⟩)
        unfold PySem.passOn
        apply wpAny_bind
        apply wpAny_field h1 h2 h3
        have nT : ¬ ((Value.ref T == Value.none) = true) := by simp
        rw [if_neg nT]
        first | exact wpAny_bind out | exact wpAny_bind (wpAny_pure (wpAny_bind out))
      | @cons x nm k b0 su p1 p2 hs2 l2 hc hn bd r ih =>
        rintro ⟨b, ex, yes, no⟩
        refine wpAny_handleBy_cons (codeAny_handlers_test ?_) (fun z => nomatch z)
        have isT : PySem.W.Looks (model X.prog X.w) g (typeOf (.ref a)) cls := fun _ _ _ _ kk qq => wpAny_typeOf_ref (kk _ _ hg) (by rw [zg.1]; exact qq)
        have asked := PySem.W.exm_one (M := model X.prog X.w) Jg.kIn isT ex
        have name : ∀ {Q E : Value → Shared → Prop}, Q k.c { t with heap := g } → wpAny (model X.prog X.w) (X.A.mark (some (.ref a))) (eval (.Name x p1) X.env) Q E { t with heap := g } := by
          intro Q E qk
          rcases hc with ⟨c1, c2, c3 | ⟨c3, c4, c5⟩⟩
          · exact ld_glob (X := X.suite a ((a, og) :: (X.pn ++ pins))) Sg c1 c3 qk c2
          · exact ld_blt (X := X.suite a ((a, og) :: (X.pn ++ pins))) Sg c1 c3 c4 qk c5 c2
        refine name (asked.here ?_)
        cases b with
        | false => exact ih (no rfl)
        | true =>
          have ran : ∀ (g4 : Heap), HandSPX.FlyingZ B (X.env :: X.outer) a (Zc cls d) g4 → t.heap.UpToSlots g4 → True := fun _ _ _ => trivial
          cases nm with
          | none =>
            cases ki : k.i with
            | some j => rw [ki] at hn; exact hn.elim
            | none =>
              refine codeAny_handlers_suite (HandSPX.lands_againZ fg fun g4 f4 u4 => ?_)
              have J4 : Inv X pins σ' H' { t with heap := g4 } := J.landed nb f4.1 ((up.trans ug).trans u4) os ag
              obtain ⟨o4, v4, h4, z4, d4⟩ := f4.there
              have y := yes rfl a na
              rw [ki] at y
              refine wpAny_mono ((bd a o4 cls d (X.pn ++ pins) z4 ⟨_, d4⟩).run [] _ _ H' _ (J4.suite h4 d4 na aL aF) y) (fun f t6 hf => ?_) fun _ _ z => z.elim
              cases f <;> first
                | (obtain ⟨σ6, H6, S6, q6⟩ := hf; exact ⟨σ6, H6, S6.unsuite okX, q6⟩)
                | (obtain ⟨v6, σ6, H6, S6, r6, q6⟩ := hf; exact ⟨v6, σ6, H6, S6.unsuite okX, r6, q6⟩)
          | some n =>
            cases ki : k.i with
            | none => rw [ki] at hn; exact hn.elim
            | some j =>
              rw [ki] at hn
              obtain ⟨nd, at1, lc⟩ := hn
              refine codeAny_handlers_suite_as (HandSPX.lands_againZ fg fun g4 f4 u4 => ?_)
              have J4 : Inv X pins σ' H' { t with heap := g4 } := J.landed nb f4.1 ((up.trans ug).trans u4) os ag
              obtain ⟨o4, v4, h4, z4, d4⟩ := f4.there
              have y := yes rfl a na
              rw [ki] at y
              refine store_ok (X := X.suite a ((a, o4) :: (X.pn ++ pins))) (v := .ref a) (J4.suite h4 d4 na aL aF) nd at1 (.inl lc) rfl (fun t5 S5 => ?_) (.inr lc)
              refine wpAny_mono ((bd a o4 cls d (X.pn ++ pins) z4 ⟨_, d4⟩).run [] t5 _ H' _ S5 y) (fun f t6 hf => ?_) fun _ _ z => z.elim
              cases f <;> first
                | (obtain ⟨σ6, H6, S6, q6⟩ := hf; exact gone_ok (S6.unsuite okX) nd at1 lc fun t7 J7 => ⟨_, _, J7, q6⟩)
                | (obtain ⟨v6, σ6, H6, S6, r6, q6⟩ := hf; exact gone_ok (S6.unsuite okX) nd at1 lc fun t7 J7 => ⟨_, _, _, J7, r6, q6⟩)
    exact go hh w
  have ran := (hb (wAll X.K Wo De l) (X.pn ++ pins) (fun u t => wpAny (model X.prog X.w) X.A (noteFrame u X.env) (fun _ t1 => wpAny (model X.prog X.w) X.A (setFlight u none) (fun _ t2 => wpAny (model X.prog X.w) X.A (handleBy u X.env (h0 :: hs)) (SP X pins De) X.xe t2) X.xe t1) X.xe t)
    (fun u t ⟨a, B, sI, pins', σ', H', cls, d, e, J0, r⟩ => caughtAt u t ⟨a, B, sI, [], σ', H', cls, d, e, (J0.ofTry okX).toTry _, r⟩) PassesOwn.looking).run [] s σ H De (I.toTry _) q
  refine wpAny_Try_except (wpAny_mono ran (fun f t hf => ?_) fun _ _ z => z)
  cases f <;> first
    | (obtain ⟨σ', H', J', q'⟩ := hf; exact ⟨σ', H', J'.ofTry okX, q'⟩)
    | (obtain ⟨v, σ', H', J', r', q'⟩ := hf; exact ⟨v, σ', H', J'.ofTry okX, r', q'⟩)
    | (obtain ⟨σ', H', J', q'⟩ := hf; exact wpAny_execs_nil ⟨σ', H', J'.ofTry okX, q'⟩)
end
/-! .. over plain data -/
structure DCl where
  c : Value
  i : Option Nat
  ts : DX → Addr → DS
def endD (i : Option Nat) (Dn : DN) : DN := match i with
  | none => { nx := Dn.nx, rt := Dn.rt, bk := Dn.bk, ct := Dn.ct }
  | some j => { nx := fun τ M => Dn.nx (τ.set j none) M, rt := Dn.rt, bk := fun τ M => Dn.bk (τ.set j none) M, ct := fun τ M => Dn.ct (τ.set j none) M }
def slotD (i : Option Nat) (a : Addr) (τ : Sl) : Sl := match i with
  | none => τ
  | some j => τ.set j (some (.ref a))
def hAll (K : PySem.W.Frag) (Dn : DN) : List DCl → DX → Sl → Mp → Prop
  | [] => Dn.ex
  | k :: r => fun x τ M => ∃ b, PySem.W.exmOne K x.cls k.c = some b ∧ (b = true → ∀ a, M a = none → k.ts x a (endD k.i Dn) (slotD k.i a τ) (caught x M)) ∧ (b = false → hAll K Dn r x τ M)
def dTryAll (K : PySem.W.Frag) (cs : List DCl) (t : DS) : DS := fun Dn τ M => t { Dn with ex := hAll K Dn cs } τ M
inductive HsD (X : Cx) (W : DW) : List ExceptHandler → List DCl → Prop
  | nil : HsD X W [] []
  | cons {x : Str} {nm : Option Str} {k : DCl} {b0 : Stmt} {su : List Stmt} {p1 p2 : Pos} {hs : List ExceptHandler} {l : List DCl} (hc : Names X x k.c) (hn : nameOk X nm k.i)
      (body : ∀ (y : DX) (a : Addr) (oe : Obj) (pn : List (Addr × Obj)), Zc y.cls y.d oe → (∃ vs, oe.data = .fields vs) → PSsD (X.suite a ((a, oe) :: pn)) (Wn W.h0) (b0 :: su) (k.ts y a)) (r : HsD X W hs l) :
      HsD X W (.ExceptHandler (some (.Name x p1)) nm (b0 :: su) p2 :: hs) (k :: l)
section
variable {X : Cx} {W : DW} {body : List Stmt} {h0 : ExceptHandler} {hs : List ExceptHandler} {l : List DCl} {pos : Pos} {t : DS}
def upCl (K : PySem.W.Frag) (H0 : Hp) (k : DCl) : Clause := ⟨k.c, k.i, fun a cls d De σ H => ∃ y, cls = y.cls ∧ d = y.d ∧ liftS K (Wn H0) (k.ts y a) De σ H⟩
theorem hsOk_of : ∀ {hs : List ExceptHandler} {l : List DCl}, HsD X W hs l → HsOk X hs (l.map (upCl X.K W.h0))
  | _, _, .nil => .nil
  | _, _, .cons hc hn bd r => .cons (k := upCl X.K W.h0 _) hc hn (fun a oe cls d pn hz hd => ⟨fun pins s σ H De I ⟨y, e1, e2, h⟩ => by
      subst e1; subst e2
      exact (bd y a oe pn hz hd).run.run pins s σ H De I h⟩) (hsOk_of r)
theorem RS.slotAt {K : PySem.W.Frag} {H0 H : Hp} {σ : L2.St} {τ : Sl} (h : RS K H0 H σ τ) (i : Option Nat) (a : Addr) : RS K H0 H (DL.slotAt i a σ) (slotD i a τ) := by
  cases i with
  | none => exact h
  | some j => exact h.set (.ref a)
theorem NC.endAt {K : PySem.W.Frag} {H0 H : Hp} {Dd : DN} {De : Ends} (nc : NC K H0 H Dd De) (i : Option Nat) : NC K H0 H (endD i Dd) (DL.endAt i De) := by
  cases i with
  | none => exact ⟨nc.nx, nc.rt, nc.bk, nc.ct⟩
  | some j => exact ⟨fun τ M σ H' q e rs hr => nc.nx _ M _ H' q e (rs.setN j) hr, nc.rt, fun τ M σ H' q e rs hr => nc.bk _ M _ H' q e (rs.setN j) hr, fun τ M σ H' q e rs hr => nc.ct _ M _ H' q e (rs.setN j) hr⟩
theorem endD_ex {i : Option Nat} {Dn : DN} {x : DX} {τ : Sl} {M : Mp} : (endD i Dn).ex x τ M → False := by cases i <;> exact fun z => z
theorem wAll_of {Dd : DN} {De : Ends} {H : Hp} (we : ∀ x τ M, Dd.ex x τ M → W.w x τ M) (e0 : TExt X.K W.h0 H) (nc : NC X.K W.h0 H Dd De) : ∀ (l : List DCl) {cls : Value} {d : Option Addr} {σ' : L2.St} {H' : Hp} {y : DX} {τ' : Sl} {M' : Mp},
    RS X.K H H' σ' τ' → HR X.K H' M' → XR X.K H' cls d y → hAll X.K Dd l y τ' M' → wAll X.K (liftW X.K W) De (l.map (upCl X.K W.h0)) cls d σ' H'
  | [], _, _, _, _, y, τ', M', rs, hr, xr, h => ⟨y, τ', M', rs.base (e0.trans rs.ext), hr, xr, we y τ' M' h⟩
  | k :: r, _, _, _, H', y, τ', M', rs, hr, xr, ⟨b, hb, hy, hn⟩ => by
    refine ⟨b, by rw [xr.1]; exact hb, fun eb a ha => ⟨y, xr.1, xr.2.1, slotD k.i a τ', caught y M', endD k.i Dd, ?_, caught_ok hr xr, hy eb a (hr.free ha), fun _ _ _ z => (endD_ex z).elim, ?_⟩, fun eb => wAll_of we e0 nc r rs hr xr (hn eb)⟩
    · exact RS.slotAt (rs.base (e0.trans rs.ext)) k.i a
    · exact NC.endAt (nc.mono rs.ext) k.i
theorem psd_try_all (e1 : X.stack = X.env :: X.outer) (e2 : X.env.frame = some X.env.locals) (tk : Takes X (liftW X.K W))
    (hb : ∀ (W' : DW) (pn : List (Addr × Obj)) (xe : Value → Shared → Prop), Takes (X.tr pn xe) (liftW X.K W') → PassesOwn (model X.prog X.w) X.A X.env xe → PSsD (X.tr pn xe) W' body t) (hh : HsD X W (h0 :: hs) l) :
    PSD X W (.Try body (h0 :: hs) [] [] pos) (dTryAll X.K l t) := by
  refine ⟨PSimp (ps_try_all (tb := fun Wx De σ H => ∃ W' : DW, (∀ cls d σ H, liftW X.K W' cls d σ H → Wx cls d σ H) ∧ liftS X.K W' t De σ H) e1 e2 tk (fun Wx pn xe htk hpo => ⟨fun pins s σ H De I ⟨W', hw, h⟩ => (hb W' pn xe (htk.imp hw) hpo).run.run pins s σ H De I h⟩) (hsOk_of hh)) fun De σ H ⟨τ, M, Dd, rs, hr, q, we, nc⟩ => ?_⟩
  refine ⟨⟨H, fun y τ' M' => hAll X.K Dd l y τ' M'⟩, ?_, τ, M, { Dd with ex := hAll X.K Dd l }, rs.base .refl, hr, q, fun y τ' M' h => h, (nc.base rs.ext).nx, (nc.base rs.ext).rt, (nc.base rs.ext).bk, (nc.base rs.ext).ct⟩
  rintro cls d σ' H' ⟨y, τ', M', rs', hr', xr, h⟩
  exact wAll_of we rs.ext nc l rs' hr' xr h
end
/-! ### zip, class constants, index -/
def pairsD : List D → List D → List D
  | x :: xs, y :: ys => .tup [x, y] :: pairsD xs ys
  | _, _ => []
theorem pairsD_len : ∀ {xs ys : List D}, (pairsD xs ys).length = min xs.length ys.length
  | [], _ => by simp [pairsD]
  | _ :: _, [] => by simp [pairsD]
  | x :: xs, y :: ys => by simp [pairsD, pairsD_len (xs := xs) (ys := ys), Nat.add_min_add_right]
theorem pairsD_at : ∀ {xs ys : List D} {i : Nat} {d : D}, (pairsD xs ys)[i]? = some d → ∃ x y, xs[i]? = some x ∧ ys[i]? = some y ∧ d = .tup [x, y]
  | [], _, _, _, h => by simp [pairsD] at h
  | _ :: _, [], _, _, h => by simp [pairsD] at h
  | x :: xs, y :: ys, 0, d, h => by simp [pairsD] at h; exact ⟨x, y, rfl, rfl, h.symm⟩
  | x :: xs, y :: ys, i + 1, d, h => by
    obtain ⟨a, b, h1, h2, h3⟩ := pairsD_at (xs := xs) (ys := ys) (i := i) (d := d) (by simpa [pairsD] using h)
    exact ⟨a, b, by simpa using h1, by simpa using h2, h3⟩
/-- zip of two tuples, of two lists -/
def dZip (ta : DA) : DI := fun τ M Q E => ta τ M (fun ds M1 => match ds with
  | [.tup xs, .tup ys] => xs.length ≤ sizeLine ∧ Q (pairsD xs ys) (fun _ => True) M1
  | [.ref a, .ref b] => match seqOf M1 a, seqOf M1 b with
    | some xs, some ys => xs.length ≤ sizeLine ∧ Q (pairsD xs ys) (fun M => seqOf M a = some xs ∧ seqOf M b = some ys) M1
    | _, _ => False
  | _ => False) E
theorem itOk_zipT {K : PySem.W.Frag} {H : Hp} {a b : Addr} {vs us : List V} {ds es : List D} (s1 : SqT K H a vs) (l1 : RpL K H vs ds) (s2 : SqT K H b us) (l2 : RpL K H us es) (z : ds.length ≤ sizeLine) : ItOk K H (RZ.ItzT K a b) (pairsD ds es) fun _ => True where
  small := by rw [pairsD_len]; omega
  go := fun i H1 M e _ _ hi => by
    rw [pairsD_len] at hi
    exact ⟨vs, us, vs[i]'(by rw [l1.length]; omega), us[i]'(by rw [l2.length]; omega), e.tup _ _ s1, e.tup _ _ s2, by simp, by simp⟩
  stop := fun i H1 M e _ _ hi => by
    rw [pairsD_len] at hi
    exact ⟨vs, us, e.tup _ _ s1, e.tup _ _ s2, by rw [l1.length, l2.length]; omega⟩
  yld := fun i H1 M v H2 e _ _ y => by
    obtain ⟨p, x, y', rfl, hp, rfl, hx, hy⟩ := y
    have h1 := hx vs (e.tup _ _ s1)
    have h2 := hy us (e.tup _ _ s2)
    refine ⟨.new hp, fun M' h => h.fresh hp, fun d hd => ?_⟩
    obtain ⟨da, db, q1, q2, rfl⟩ := pairsD_at hd
    obtain ⟨va, ea, ra⟩ := (l1.mono e).get q1
    obtain ⟨vb, eb, rb⟩ := (l2.mono e).get q2
    cases h1.symm.trans ea
    cases h2.symm.trans eb
    exact .tup (.of upd_same) (.cons (ra.mono (.new hp)) (.cons (rb.mono (.new hp)) .nil))
theorem itOk_zipL {K : PySem.W.Frag} {H : Hp} {a b : Addr} {ds es : List D} (z : ds.length ≤ sizeLine) : ItOk K H (Itz K a b) (pairsD ds es) fun M => seqOf M a = some ds ∧ seqOf M b = some es where
  small := by rw [pairsD_len]; omega
  go := fun i H1 M e hr hk hi => by
    rw [pairsD_len] at hi
    obtain ⟨vs, s1, l1⟩ := seqOf_ok hr hk.1
    obtain ⟨us, s2, l2⟩ := seqOf_ok hr hk.2
    exact ⟨vs, us, vs[i]'(by rw [l1.length]; omega), us[i]'(by rw [l2.length]; omega), s1, s2, by simp, by simp⟩
  stop := fun i H1 M e hr hk hi => by
    rw [pairsD_len] at hi
    obtain ⟨vs, s1, l1⟩ := seqOf_ok hr hk.1
    obtain ⟨us, s2, l2⟩ := seqOf_ok hr hk.2
    exact ⟨vs, us, s1, s2, by rw [l1.length, l2.length]; omega⟩
  yld := fun i H1 M v H2 e hr hk y => by
    obtain ⟨p, x, y', rfl, hp, rfl, hx, hy⟩ := y
    obtain ⟨vs, s1, l1⟩ := seqOf_ok hr hk.1
    obtain ⟨us, s2, l2⟩ := seqOf_ok hr hk.2
    have h1 := hx vs s1
    have h2 := hy us s2
    refine ⟨.new hp, fun M' h => h.fresh hp, fun d hd => ?_⟩
    obtain ⟨da, db, q1, q2, rfl⟩ := pairsD_at hd
    obtain ⟨va, ea, ra⟩ := l1.get q1
    obtain ⟨vb, eb, rb⟩ := l2.get q2
    cases h1.symm.trans ea
    cases h2.symm.trans eb
    exact .tup (.of upd_same) (.cons (ra.mono (.new hp)) (.cons (rb.mono (.new hp)) .nil))
section
variable {X : Cx} {W : DW} {p pos tpos : Pos} {e e2 : Expr} {elts : List Expr} {kk : Nat} {ta : DA}
theorem pid_zip (hg : Gl X "zip") (hm : X.mg "zip" = none) (ha : PAD X W [e, e2] ta) (hs : starEach [e, e2] X.env = (false, eval e X.env) :: starEach [e2] X.env := by rfl) (hpl : (backTo pos (starEach [e2] X.env)).any (·.1) = false := by rfl) :
    PID X W (.Tuple elts kk tpos) (.Call (.Name "zip" p) [e, e2] [] pos) (dZip ta) := ⟨PIimp (RZ.pi_zipA hg hm ha.run hs hpl) fun σ H R ⟨τ, M, Qd, Ed, rs, hr, q, we, k⟩ => ⟨τ, M, _, Ed, rs, hr, q, we, fun ds M1 vs H1 q1 e1 r1 h1 => by
  split at q1
  · rename_i xs ys
    obtain ⟨v, v', rfl, rv, rv'⟩ := r1.two
    obtain ⟨a, us, rfl, s1, l1⟩ := rv.toTup
    obtain ⟨b, ws, rfl, s2, l2⟩ := rv'.toTup
    exact ⟨a, b, us, ws, rfl, .inr ⟨s1, s2, k _ _ _ M1 H1 q1.2 e1 h1 (itOk_zipT s1 l1 s2 l2 q1.1)⟩⟩
  · rename_i a b
    split at q1
    · rename_i xs ys ea eb
      obtain ⟨v, v', rfl, rv, rv'⟩ := r1.two
      obtain ⟨us, s1, l1⟩ := seqOf_ok h1 ea
      obtain ⟨ws, s2, l2⟩ := seqOf_ok h1 eb
      exact ⟨a, b, us, ws, by rw [rv.toRef, rv'.toRef], .inl ⟨s1, s2, k _ _ _ M1 H1 q1.2 e1 h1 (itOk_zipL q1.1)⟩⟩
    · exact q1.elim
  · exact q1.elim⟩⟩
/-- C.f, a constant of a class -/
def CstK (K : PySem.W.Frag) (C : Addr) (f : Str) (d : D) : Prop := ∃ mc v u, ClX.CRead K C mc ∧ ClX.CVal K C mc f v u ∧ ∀ H, Rp K H v d
theorem CstK.int {K : PySem.W.Frag} {C : Addr} {f : Str} {i : Int} {t : Tok} (h1 : PySem.W.readsIn K C (.type "type") = true) (h2 : PySem.W.specialIn K (.ref C) "__getattribute__" = some (some (.builtin "type.__getattribute__"))) (h3 : PySem.W.findCls K (.ref C) (.type "type") f = some (.val (.int i t))) : CstK K C f (.int i) :=
  ⟨_, .int i, _, ⟨h1, h2⟩, ⟨h3, ⟨t, rfl⟩⟩, fun _ => .int i⟩
theorem pd_cst {C : Addr} {f : Str} {d : D} (h : CstK X.K C f d) (he : PD X W e (dC (.ref C))) (hb : attributeBase e f X.env (eval e X.env) = eval e X.env := by rfl) : PD X W (.Attribute e f pos) (dC d) :=
  ⟨PEimp (ClX.pe_cval he.run hb) fun σ H Q ⟨τ, M, Qd, Ed, rs, hr, q, we, k⟩ => ⟨τ, M, (fun x M1 => x = .ref C ∧ Qd d M1), Ed, rs, hr, ⟨rfl, q⟩, we, fun x M1 v H1 q1 e1 r1 h1 => by
    obtain ⟨rfl, q1⟩ := q1
    obtain ⟨mc, v', u, c1, c2, c3⟩ := h
    exact ⟨C, mc, v', u, r1.toRef, c1, c2, k _ M1 _ H1 q1 e1 (c3 H1) h1⟩⟩⟩
/-- xs.index(y), y is there -/
def indexM : DM := fun d ds M Q => match seqOf' d M, ds with
  | some xs, [y] => flatD y = true ∧ xs.all flatD = true ∧ ∃ j z, xs[j]? = some z ∧ eqb z y = true ∧ (∀ m z', m < j → xs[m]? = some z' → eqb z' y = false) ∧ Q (.int ((j : Nat) : Int)) M
  | _, _ => False
where seqOf' : D → Mp → Option (List D)
  | .ref a, M => seqOf M a
  | _, _ => none
theorem mt_indexM : MtR X "list.index" (liftM X.K indexM) := MtRimp mt_index fun x xs H Q ⟨d, ds, M, Qd, q, rx, rs, hr, k⟩ => by
  unfold indexM at q
  split at q
  · rename_i ys y es
    cases d with
    | ref a =>
      obtain ⟨fy, fys, j, z, hz, ez, hno, q⟩ := q
      obtain ⟨vs, s, l⟩ := seqOf_ok hr es
      obtain ⟨v, rfl, rv⟩ := rs.one
      obtain ⟨u, hu, ru⟩ := l.get hz
      have fz : flatD z = true := List.all_eq_true.mp fys z (List.mem_of_getElem? hz)
      refine ⟨a, vs, v, j, u, rx.toRef, rfl, s, flatD_ok rv fy, flatL_ok l fys, hu, by rw [eqV_flat ru rv fz fy]; exact ez, fun m z' hm h' => ?_, k _ M _ H q .refl (.int _) hr⟩
      have hlt : m < ys.length := by
        have := (List.getElem?_eq_some_iff.mp h').1
        rw [l.length] at this; exact this
      obtain ⟨w, hw, rw'⟩ := l.get (List.getElem?_eq_getElem hlt)
      cases h'.symm.trans hw
      have fw : flatD ys[m] = true := List.all_eq_true.mp fys _ (List.getElem_mem hlt)
      rw [eqV_flat rw' rv fw fy]
      exact hno m _ hm (List.getElem?_eq_getElem hlt)
    | _ => cases es
  · exact q.elim
/-! list(range(..)), tuple(range(..)) -/
def rgD (a b : Int) : List D := (List.range (b - a).toNat).map fun i => D.int (a + (i : Nat))
theorem rgD_rp {K : PySem.W.Frag} {H : Hp} {a b : Int} : RpL K H (rgV a b) (rgD a b) := by
  unfold rgV rgD
  generalize List.range (b - a).toNat = l
  induction l with
  | nil => exact .nil
  | cons x l ih => exact .cons (.int _) ih
def rgP (i j : Int) : Prop := -(2 ^ 62) ≤ i ∧ i < 2 ^ 62 ∧ -(2 ^ 62) ≤ j ∧ j < 2 ^ 62 ∧ (j - i).toNat ≤ 2 ^ 24
def rgEnds (ds : List D) (Q : Int → Int → Prop) : Prop := match ds with
  | [.int j] => rgP 0 j ∧ Q 0 j
  | [.int i, .int j] => rgP i j ∧ Q i j
  | _ => False
def dLstRg (ta : DA) : DE := fun τ M Q E => ta τ M (fun ds M1 => rgEnds ds fun i j => ∀ p, M1 p = none → Q (.ref p) (put M1 p (.lst (rgD i j)))) E
def dTupRg (ta : DA) : DE := fun τ M Q E => ta τ M (fun ds M1 => rgEnds ds fun i j => Q (.tup (rgD i j)) M1) E
variable {a b : Expr} {tx ty : DE} {p1 p2 : Pos}
theorem pd_lstRg1 (hc : X.calm = true) (hg : Gl X "list") (hm : X.mg "list" = none) (hg2 : Gl X "range") (hm2 : X.mg "range" = none) (ha : PD X W a tx) (n2 : starEach [a] X.env = (false, eval a X.env) :: starEach [] X.env := by rfl)
    (n1 : starEach [.Call (.Name "range" p2) [a] [] p1] X.env = (false, eval (.Call (.Name "range" p2) [a] [] p1) X.env) :: starEach [] X.env := by rfl) : PD X W (.Call (.Name "list" p) [.Call (.Name "range" p2) [a] [] p1] [] pos) (dLstRg (dCons tx dNil)) :=
  ⟨PEimp (pe_listRg hc hg hm (prg_1 hg2 hm2 ha.run n2) n1) fun σ H Q ⟨τ, M, Qd, Ed, rs, hr, q, we, k⟩ => by
    refine ⟨τ, M, _, Ed, rs, hr, q, we, fun d M1 v H1 q1 e1 r1 h1 => ?_⟩
    dsimp only [dNil, rgEnds] at q1
    split at q1
    · rename_i j heq
      simp only [List.cons.injEq, and_true] at heq
      subst heq
      exact ⟨j, r1.toInt, q1.1, fun p hp => (k.mono e1).lst h1 rgD_rp hp q1.2⟩
    · rename_i heq; simp at heq
    · exact q1.elim⟩
theorem pd_tupRg1 (hc : X.calm = true) (hg : Gl X "tuple") (hm : X.mg "tuple" = none) (hg2 : Gl X "range") (hm2 : X.mg "range" = none) (ha : PD X W a tx) (n2 : starEach [a] X.env = (false, eval a X.env) :: starEach [] X.env := by rfl)
    (n1 : starEach [.Call (.Name "range" p2) [a] [] p1] X.env = (false, eval (.Call (.Name "range" p2) [a] [] p1) X.env) :: starEach [] X.env := by rfl) : PD X W (.Call (.Name "tuple" p) [.Call (.Name "range" p2) [a] [] p1] [] pos) (dTupRg (dCons tx dNil)) :=
  ⟨PEimp (pe_tupRg hc hg hm (prg_1 hg2 hm2 ha.run n2) n1) fun σ H Q ⟨τ, M, Qd, Ed, rs, hr, q, we, k⟩ => by
    refine ⟨τ, M, _, Ed, rs, hr, q, we, fun d M1 v H1 q1 e1 r1 h1 => ?_⟩
    dsimp only [dNil, rgEnds] at q1
    split at q1
    · rename_i j heq
      simp only [List.cons.injEq, and_true] at heq
      subst heq
      exact ⟨j, r1.toInt, q1.1, fun p hp => (k.mono e1).tup h1 rgD_rp hp q1.2⟩
    · rename_i heq; simp at heq
    · exact q1.elim⟩
end
theorem hsd_cons {X : Cx} {W : DW} {x : Str} {nm : Option Str} {c : Value} {i : Option Nat} (ts : DX → Addr → DS) {b0 : Stmt} {su : List Stmt} {p1 p2 : Pos} {hs : List ExceptHandler} {l : List DCl} (hc : Names X x c) (hn : nameOk X nm i)
      (body : ∀ (y : DX) (a : Addr) (oe : Obj) (pn : List (Addr × Obj)), Zc y.cls y.d oe → (∃ vs, oe.data = .fields vs) → PSsD (X.suite a ((a, oe) :: pn)) (Wn W.h0) (b0 :: su) (ts y a)) (r : HsD X W hs l) :
      HsD X W (.ExceptHandler (some (.Name x p1)) nm (b0 :: su) p2 :: hs) (⟨c, i, ts⟩ :: l) := .cons (k := ⟨c, i, ts⟩) hc hn body r
end DL

set_option maxHeartbeats 4000000
namespace DL
open PySem PySem.Spec L2
section
variable {X : Cx}
/-! ### x in (a, b): items of any depth -/
def inT (n : Bool) : DO := fun x y M Q => match y with
  | .tup ys => ok x = true ∧ okL ys = true ∧ min (depL ys) (dep x) ≤ 198 ∧ Q (.bl (n != ys.any fun d => eqb d x)) M
  | _ => False
theorem okL_mem : ∀ {ys : List D}, okL ys = true → ∀ y, y ∈ ys → ok y = true
  | y :: ys, h, z, hz => by
    have h' : ok y = true ∧ okL ys = true := by simpa [okL] using h
    rcases List.mem_cons.mp hz with rfl | hz
    · exact h'.1
    · exact okL_mem h'.2 z hz
theorem toPL_any {x : D} (hx : ok x = true) : ∀ {ys : List D}, okL ys = true → ((toPL ys).any fun z => PyData.eqv z (toP x)) = ys.any fun d => eqb d x
  | [], _ => by simp [toPL]
  | y :: ys, h => by
    have h' : ok y = true ∧ okL ys = true := by simpa [okL] using h
    rw [toPL, List.any_cons, List.any_cons, toPL_any hx h'.2, eqv_toP _ _ h'.1 hx]
theorem op_inT (hu : X.A.units + 200 < cLine) : OpR X (compareOp .In) (liftO X.K (inT false)) := by
  intro pins s σ H x y v u Q I rx ry ⟨dx, dy, M, Qd, q, a, b, c, k⟩
  unfold inT at q
  split at q
  · rename_i ys
    obtain ⟨o1, o2, dm, q⟩ := q
    obtain ⟨as, r1⟩ := Dp.reads I _ x v (dp_of a o1) rx
    have hb := dp_of b (show ok (.tup ys) = true by simpa [ok] using o2)
    rw [toP] at hb
    obtain ⟨bs, r2⟩ := Dp.reads I _ y u hb ry
    refine SeqAt.in_tuple_reads r2 r1 (layL_toP _ o2) (lay_toP _ o1) (by rw [depL_toP, dep_toP]; omega) ?_
    rw [toPL_any o1 o2]
    exact ⟨.bl _, H, I, rfl, k _ M _ H (by simpa using q) .refl (.bl _) c⟩
  · exact q.elim
theorem op_notInT (hu : X.A.units + 200 < cLine) : OpR X (compareOp .NotIn) (liftO X.K (inT true)) := by
  intro pins s σ H x y v u Q I rx ry ⟨dx, dy, M, Qd, q, a, b, c, k⟩
  unfold inT at q
  split at q
  · rename_i ys
    obtain ⟨o1, o2, dm, q⟩ := q
    obtain ⟨as, r1⟩ := Dp.reads I _ x v (dp_of a o1) rx
    have hb := dp_of b (show ok (.tup ys) = true by simpa [ok] using o2)
    rw [toP] at hb
    obtain ⟨bs, r2⟩ := Dp.reads I _ y u hb ry
    refine SeqAt.notIn_tuple_reads r2 r1 (layL_toP _ o2) (lay_toP _ o1) (by rw [depL_toP, dep_toP]; omega) ?_
    rw [toPL_any o1 o2]
    exact ⟨.bl _, H, I, rfl, k _ M _ H (by simpa using q) .refl (.bl _) c⟩
  · exact q.elim
end
end DL

namespace DL
open PySem PySem.Spec L2
/-! ### comprehensions: a target of several names, two clauses -/
/-- what a target does: gd, for the data that are good -/
structure TgOk (K : PySem.W.Frag) (vs : List Nat) (g : TG) (gd : D → Sl → Sl) (good : D → Prop) : Prop where
  run : ∀ (H0 H : Hp) (x : V) (d : D) (σ : L2.St) (τ : Sl) (Q : L2.St → Hp → Prop), Rp K H x d → good d → RS K H0 H (wipe σ vs) τ → (∀ σ', RS K H0 H σ' (gd d τ) → wipe σ' vs = wipe σ vs → Q σ' H) → g x (wipe σ vs) H Q
theorem tg_name {K : PySem.W.Frag} {vs : List Nat} {i : Nat} (hi : i ∈ vs) : TgOk K vs (gName i) (fun d τ => τ.set i (some d)) (fun _ => True) :=
  ⟨fun _ _ _ _ _ _ _ r _ hs k => k _ (hs.set r) (wipe_set hi)⟩
def two (i j : Nat) : D → Sl → Sl := fun d τ => match d with
  | .tup [a, b] => (τ.set i (some a)).set j (some b)
  | _ => τ
def isTwo (d : D) : Prop := ∃ a b, d = .tup [a, b]
theorem wipe_two {σ : L2.St} {vs : List Nat} {i j : Nat} {x y : Option V} (h : i ∈ vs) (h2 : j ∈ vs) : wipe (((wipe σ vs).set i x).set j y) vs = wipe σ vs := by
  apply wipe_same
  · simp [wipe_length]
  · intro k hk
    have n1 : i ≠ k := fun e => hk (e ▸ h)
    have n2 : j ≠ k := fun e => hk (e ▸ h2)
    rw [List.getElem?_set_ne n2, List.getElem?_set_ne n1, wipe_out' hk]
theorem tg_two {K : PySem.W.Frag} {vs : List Nat} {i j : Nat} (hi : i ∈ vs) (hj : j ∈ vs) : TgOk K vs (gTup K 2 (gCons (gName i) (gCons (gName j) gNil))) (two i j) isTwo := by
  refine ⟨fun H0 H x d σ τ Q r g hs k => ?_⟩
  obtain ⟨a, b, rfl⟩ := g
  obtain ⟨p, va, rfl, sa, la⟩ := r.toTup
  obtain ⟨v1, v2, rfl, r1, r2⟩ := la.two
  exact ⟨p, [v1, v2], rfl, sa, rfl, v1, [v2], rfl, v2, [], rfl, rfl, k _ ((hs.set r1).set r2) (wipe_two hi hj)⟩
def dLcG (good : D → Prop) (ti : DI) (g : D → Sl → Sl) (tt : DT) (te : DE) (vs : List Nat) : DE := fun τ M Q E => ti τ M (fun its kp M1 => (∀ d, d ∈ its → good d) ∧ ∀ p, M1 p = none → dCL g tt te kp p (wipeD τ vs) (fun M2 => Q (.ref p) M2) its (put M1 p (.lst []))) E
theorem lc_readG {ti : DI} {tt : DT} {te : DE} {g : TG} {gd : D → Sl → Sl} {good : D → Prop} {vs : List Nat} {K : PySem.W.Frag} (hg : TgOk K vs g gd good) {σ : L2.St} {H : Hp} {Q : VK} {W : DW} (h : liftE K W (dLcG good ti gd tt te vs) σ H Q) :
    tLc (liftI K W ti) g (liftT K W0 tt) (liftE K W0 te) vs σ H Q := by
  obtain ⟨τ, M, Qd, Ed, hs, hr, q, we, k⟩ := h
  refine ⟨τ, M, _, Ed, hs, hr, q, we, fun its kp J M1 H1 q1 e1 h1 ok D hD => ?_⟩
  obtain ⟨gd1, q1⟩ := q1
  have q2 := q1 D (h1.free hD)
  have e2 : TExt K H1 (upd H1 D (.lst [])) := .new hD
  refine ⟨fun i m H' => m = its.length - i ∧ i ≤ its.length ∧ TExt K (upd H1 D (.lst [])) H' ∧ ∃ M', HR K H' M' ∧ dCL gd tt te kp D (wipeD τ vs) (fun M2 => Qd (.ref D) M2) (its.drop i) M', ⟨_, rfl, Nat.zero_le _, .refl, _, h1.made (o := .lst []) (noTup_none hD) ⟨[], upd_same, .nil⟩, by simpa using q2⟩, ?_⟩
  rintro j m H2 ⟨rfl, hj, e3, M2, hr2, q3⟩
  by_cases hlt : j < its.length
  · rw [List.drop_eq_getElem_cons hlt] at q3
    obtain ⟨hk, q3⟩ := q3
    refine .inr ⟨ok.go j H2 M2 (e2.trans e3) hr2 hk hlt, fun H' => TExt K (upd H1 D (.lst [])) H' ∧ ∃ M', HR K H' M' ∧ dCL gd tt te kp D (wipeD τ vs) (fun M2 => Qd (.ref D) M2) (its.drop (j + 1)) M', fun H' h => ⟨its.length - (j + 1), by omega, rfl, hlt, h.1, h.2⟩, fun x H3 y => ?_⟩
    obtain ⟨e4, k4, r4⟩ := ok.yld j H2 M2 x H3 (e2.trans e3) hr2 hk y
    have rx := r4 its[j] (by simp [hlt])
    have hs3 : RS K W0.h0 H3 (wipe σ vs) (wipeD τ vs) := (hs.mono (e1.trans (e2.trans (e3.trans e4)))).wipe vs .none
    refine hg.run _ _ _ _ _ _ _ rx (gd1 _ (List.getElem_mem hlt)) hs3 fun σ' hs4 hw => ⟨hw, _, M2, _, _, hs4, k4 _ hr2, q3, fun _ _ z => z.elim, fun b M4 H4 q4 e5 h4 => ?_⟩
    cases b with
    | false => exact ⟨e3.trans (e4.trans e5), M4, h4, by simpa using q4⟩
    | true =>
      simp only [if_true] at q4 ⊢
      refine ⟨_, M4, _, _, hs4.mono e5, h4, q4, fun _ _ z => z.elim, fun y M5 v H5 q5 e6 r5 h5 => ?_⟩
      dsimp only at q5
      split at q5
      · rename_i acc ea
        obtain ⟨us, hu, l⟩ := h5.lst ea
        have e7 : TExt K H5 (upd H5 D (.lst (us ++ [v]))) := .upd (noTup_lst hu)
        refine ⟨us, hu, by rw [l.length]; exact q5.1, e3.trans (e4.trans (e5.trans (e6.trans e7))), _, h5.made (o := .lst (acc ++ [y])) (noTup_lst hu) ⟨_, upd_same, (l.append (.cons r5 .nil)).mono e7⟩, q5.2⟩
      · exact q5.elim
  · have ei : j = its.length := by omega
    subst ei
    rw [List.drop_length] at q3
    exact .inl ⟨ok.stop _ H2 M2 (e2.trans e3) hr2 q3.1 (Nat.le_refl _), k _ M2 _ H2 q3.2 (e1.trans (e2.trans e3)) (.ref D) hr2⟩
section
variable {X : Cx} {W : DW} {pos p : Pos} {tg elt iter : Expr} {ifs : List Expr} {scope : Scope} {own : List (Str × Nat)} {ti : DI} {tt : DT} {te : DE} {i : Nat} {g : TG} {gd : D → Sl → Sl} {good : D → Prop}
theorem pd_lcG (hc : X.calm = true) (hN : X.N.Nodup) (hi : PID X W tg iter ti) (ok : BlkOk X.N X.env.scope scope own) (hg0 : TgOk X.K (own.map (·.2)) g gd good)
    (hg : ∀ (s : Shared) (H : Hp) (C : Addr) (cl : List (Str × Addr)) (fp : List Addr), PG (X.blk s H scope (compEnvC scope cl C X.env) fp) tg g)
    (ht : ∀ (s : Shared) (H : Hp) (C : Addr) (cl : List (Str × Addr)) (fp : List Addr), PTsD (X.blk s H scope (compEnvC scope cl C X.env) fp) W0 ifs tt)
    (he : ∀ (s : Shared) (H : Hp) (C : Addr) (cl : List (Str × Addr)) (fp : List Addr), PD (X.blk s H scope (compEnvC scope cl C X.env) fp) W0 elt te) (hs : ∀ x, foldedSetIterable iter X.env x = pure x := by intro _; rfl) :
    PD X W (.ListComp elt [⟨tg, iter, ifs, 0⟩] scope pos) (dLcG good ti gd tt te (own.map (·.2))) :=
  ⟨PEimp (pe_lc hc hN hi.run ok hg (fun s H C cl fp => (ht s H C cl fp).run) (fun s H C cl fp => (he s H C cl fp).run) hs) fun σ H Q h => lc_readG hg0 h⟩
theorem psd_setLcG {j : Nat} {y : Str} {py spos : Pos} (hc : X.calm = true) (hN : X.N.Nodup) (hy : X.N[j]? = some y) (hyl : X.env.scope.names.lookup y = some .local)
    (hsw : swapsWith (.ListComp elt [⟨tg, iter, ifs, 0⟩] scope pos) (some (.Name y py)) spos.line X.env = pure true) (hi : PID X W tg iter ti) (ok : BlkOk X.N X.env.scope scope own) (hg0 : TgOk X.K (own.map (·.2)) g gd good)
    (hg : ∀ (s : Shared) (H : Hp) (C : Addr) (cl : List (Str × Addr)) (fp : List Addr), PG (X.blk s H scope (compEnvC scope cl C X.env) fp) tg g)
    (ht : ∀ (s : Shared) (H : Hp) (C : Addr) (cl : List (Str × Addr)) (fp : List Addr), PTsD (X.blk s H scope (compEnvC scope cl C X.env) fp) W0 ifs tt)
    (he : ∀ (s : Shared) (H : Hp) (C : Addr) (cl : List (Str × Addr)) (fp : List Addr), PD (X.blk s H scope (compEnvC scope cl C X.env) fp) W0 elt te) (hs : ∀ x, foldedSetIterable iter X.env x = pure x := by intro _; rfl) :
    PSD X W (.Assign [.Name y py] (.ListComp elt [⟨tg, iter, ifs, 0⟩] scope pos) spos) (dAsg (dLcG good ti gd tt te (own.map (·.2))) (dName j)) :=
  ⟨PSimp (ps_setLc hc hN hy hyl hsw hi.run ok hg (fun s H C cl fp => (ht s H C cl fp).run) (fun s H C cl fp => (he s H C cl fp).run) hs) fun De σ H ⟨τ, M, Dd, h1, hr, q, we, nc⟩ =>
    lc_readG hg0 ⟨τ, M, _, _, h1, hr, q, fun x M' hx => we _ _ _ hx, fun d M1 v H1 q1 e1 r1 h2 => nc.nx _ M1 _ H1 q1 e1 ((h1.mono e1).set r1) h2⟩⟩
end
/-- .. two clauses -/
def dCL2 (g : D → Sl → Sl) (tt : DT) (ti1 : DI) (g1 : D → Sl → Sl) (tt1 : DT) (te : DE) (vs1 : List Nat) (kp : Mp → Prop) (p : Addr) (τ : Sl) (F : Mp → Prop) : List D → Mp → Prop
  | [], M => kp M ∧ F M
  | d :: ds, M => kp M ∧ tt (g d τ) M (fun b M1 => if b = true then ti1 (g d τ) M1 (fun its1 kp1 M2 => dCL g1 tt1 te kp1 p (wipeD (g d τ) vs1) (dCL2 g tt ti1 g1 tt1 te vs1 kp p τ F ds) its1 M2) noE
      else dCL2 g tt ti1 g1 tt1 te vs1 kp p τ F ds M1) noE
def dLc2 (ti : DI) (g : D → Sl → Sl) (tt : DT) (ti1 : DI) (g1 : D → Sl → Sl) (tt1 : DT) (te : DE) (vs vs1 : List Nat) : DE := fun τ M Q E => ti τ M (fun its kp M1 => ∀ p, M1 p = none → dCL2 g tt ti1 g1 tt1 te vs1 kp p (wipeD τ vs) (fun M2 => Q (.ref p) M2) its (put M1 p (.lst []))) E
theorem lc_read2 {ti ti1 : DI} {tt tt1 : DT} {te : DE} {i j : Nat} {vs vs1 : List Nat} {K : PySem.W.Frag} (hi : i ∈ vs) (hj : j ∈ vs1) {σ : L2.St} {H : Hp} {Q : VK} {W : DW}
    (h : liftE K W (dLc2 ti (fun d τ => τ.set i (some d)) tt ti1 (fun d τ => τ.set j (some d)) tt1 te vs vs1) σ H Q) :
    tLc2 (liftI K W ti) (gName i) (liftT K W0 tt) (liftI K W0 ti1) (gName j) (liftT K W0 tt1) (liftE K W0 te) vs vs1 σ H Q := by
  obtain ⟨τ, M, Qd, Ed, hs, hr, q, we, k⟩ := h
  refine ⟨τ, M, _, Ed, hs, hr, q, we, fun its kp J M1 H1 q1 e1 h1 ok D hD => ?_⟩
  have q2 := q1 D (h1.free hD)
  have e2 : TExt K H1 (upd H1 D (.lst [])) := .new hD
  generalize hC : dCL2 (fun d τ => τ.set i (some d)) tt ti1 (fun d τ => τ.set j (some d)) tt1 te vs1 kp D (wipeD τ vs) (fun M2 => Qd (.ref D) M2) = C at q2
  have hCc : ∀ d ds M, C (d :: ds) M → kp M ∧ tt ((wipeD τ vs).set i (some d)) M (fun b M1 => if b = true then ti1 ((wipeD τ vs).set i (some d)) M1 (fun its1 kp1 M2 => dCL (fun d τ => τ.set j (some d)) tt1 te kp1 D (wipeD ((wipeD τ vs).set i (some d)) vs1) (C ds) its1 M2) noE else C ds M1) noE := by
    intro d ds M h; subst hC; exact h
  have hCn : ∀ M, C [] M → kp M ∧ Qd (.ref D) M := by intro M h; subst hC; exact h
  refine ⟨fun i m H' => m = its.length - i ∧ i ≤ its.length ∧ TExt K (upd H1 D (.lst [])) H' ∧ ∃ M', HR K H' M' ∧ C (its.drop i) M', ⟨_, rfl, Nat.zero_le _, .refl, _, h1.made (o := .lst []) (noTup_none hD) ⟨[], upd_same, .nil⟩, by simpa using q2⟩, ?_⟩
  rintro n m H2 ⟨rfl, hn, e3, M2, hr2, q3⟩
  by_cases hlt : n < its.length
  · rw [List.drop_eq_getElem_cons hlt] at q3
    obtain ⟨hk, q3⟩ := hCc _ _ _ q3
    refine .inr ⟨ok.go n H2 M2 (e2.trans e3) hr2 hk hlt, fun H' => TExt K (upd H1 D (.lst [])) H' ∧ ∃ M', HR K H' M' ∧ C (its.drop (n + 1)) M', fun H' h => ⟨its.length - (n + 1), by omega, rfl, hlt, h.1, h.2⟩, fun x H3 y => ?_⟩
    obtain ⟨e4, k4, r4⟩ := ok.yld n H2 M2 x H3 (e2.trans e3) hr2 hk y
    have rx := r4 its[n] (by simp [hlt])
    have hs3 : RS K W0.h0 H3 ((wipe σ vs).set i (some x)) ((wipeD τ vs).set i (some its[n])) := ((hs.mono (e1.trans (e2.trans (e3.trans e4)))).wipe vs .none).set rx
    refine ⟨wipe_set hi, _, M2, _, _, hs3, k4 _ hr2, q3, fun _ _ z => z.elim, fun b M4 H4 q4 e5 h4 => ?_⟩
    cases b with
    | false => exact ⟨e3.trans (e4.trans e5), M4, h4, by simpa using q4⟩
    | true =>
      simp only [if_true] at q4 ⊢
      refine ⟨_, M4, _, _, hs3.mono e5, h4, q4, fun _ _ z => z.elim, fun its1 kp1 J1 M5 H5 q5 e6 h5 ok1 => ?_⟩
      refine ⟨fun l m H' => m = its1.length - l ∧ l ≤ its1.length ∧ TExt K H5 H' ∧ ∃ M', HR K H' M' ∧ dCL (fun d τ => τ.set j (some d)) tt1 te kp1 D (wipeD ((wipeD τ vs).set i (some its[n])) vs1) (C (its.drop (n + 1))) (its1.drop l) M', ⟨_, rfl, Nat.zero_le _, .refl, _, h5, by simpa using q5⟩, ?_⟩
      rintro l m H6 ⟨rfl, hl, e7, M6, hr6, q6⟩
      by_cases hlt1 : l < its1.length
      · rw [List.drop_eq_getElem_cons hlt1] at q6
        obtain ⟨hk1, q6⟩ := q6
        refine .inr ⟨ok1.go l H6 M6 e7 hr6 hk1 hlt1, fun H' => TExt K H5 H' ∧ ∃ M', HR K H' M' ∧ dCL (fun d τ => τ.set j (some d)) tt1 te kp1 D (wipeD ((wipeD τ vs).set i (some its[n])) vs1) (C (its.drop (n + 1))) (its1.drop (l + 1)) M', fun H' h => ⟨its1.length - (l + 1), by omega, rfl, hlt1, h.1, h.2⟩, fun x1 H7 y1 => ?_⟩
        obtain ⟨e8, k8, r8⟩ := ok1.yld l H6 M6 x1 H7 e7 hr6 hk1 y1
        have rx1 := r8 its1[l] (by simp [hlt1])
        have hs7 : RS K W0.h0 H7 ((wipe ((wipe σ vs).set i (some x)) vs1).set j (some x1)) ((wipeD ((wipeD τ vs).set i (some its[n])) vs1).set j (some its1[l])) := ((hs3.mono (e5.trans (e6.trans (e7.trans e8)))).wipe vs1 .none).set rx1
        refine ⟨wipe_set hj, _, M6, _, _, hs7, k8 _ hr6, q6, fun _ _ z => z.elim, fun b M8 H8 q8 e9 h8 => ?_⟩
        cases b with
        | false => exact ⟨e7.trans (e8.trans e9), M8, h8, by simpa using q8⟩
        | true =>
          simp only [if_true] at q8 ⊢
          refine ⟨_, M8, _, _, hs7.mono e9, h8, q8, fun _ _ z => z.elim, fun y M9 v H9 q9 e10 r9 h9 => ?_⟩
          dsimp only at q9
          split at q9
          · rename_i acc ea
            obtain ⟨us, hu, l⟩ := h9.lst ea
            have e11 : TExt K H9 (upd H9 D (.lst (us ++ [v]))) := .upd (noTup_lst hu)
            exact ⟨us, hu, by rw [l.length]; exact q9.1, e7.trans (e8.trans (e9.trans (e10.trans e11))), _, h9.made (o := .lst (acc ++ [y])) (noTup_lst hu) ⟨_, upd_same, (l.append (.cons r9 .nil)).mono e11⟩, q9.2⟩
          · exact q9.elim
      · have ei : l = its1.length := by omega
        subst ei
        rw [List.drop_length] at q6
        exact .inl ⟨ok1.stop _ H6 M6 e7 hr6 q6.1 (Nat.le_refl _), e3.trans (e4.trans (e5.trans (e6.trans e7))), M6, hr6, q6.2⟩
  · have ei : n = its.length := by omega
    subst ei
    rw [List.drop_length] at q3
    obtain ⟨c1, c2⟩ := hCn _ q3
    exact .inl ⟨ok.stop _ H2 M2 (e2.trans e3) hr2 c1 (Nat.le_refl _), k _ M2 _ H2 c2 (e1.trans (e2.trans e3)) (.ref D) hr2⟩
section
variable {X : Cx} {W : DW} {pos p : Pos} {tg elt iter tg1 iter1 : Expr} {ifs ifs1 : List Expr} {scope : Scope} {own : List (Str × Nat)} {ti ti1 : DI} {tt tt1 : DT} {te : DE} {i j : Nat} {vs1 : List Nat}
theorem pd_lc2 (hc : X.calm = true) (hN : X.N.Nodup) (hi : PID X W tg iter ti) (ok : BlkOk X.N X.env.scope scope own) (hv1 : ∀ i ∈ vs1, i ∈ own.map (·.2)) (hv : i ∈ own.map (·.2)) (hw : j ∈ vs1)
    (hg : ∀ (s : Shared) (H : Hp) (C : Addr) (cl : List (Str × Addr)) (fp : List Addr), PG (X.blk s H scope (compEnvC scope cl C X.env) fp) tg (gName i))
    (ht : ∀ (s : Shared) (H : Hp) (C : Addr) (cl : List (Str × Addr)) (fp : List Addr), PTsD (X.blk s H scope (compEnvC scope cl C X.env) fp) W0 ifs tt)
    (hi1 : ∀ (s : Shared) (H : Hp) (C : Addr) (cl : List (Str × Addr)) (fp : List Addr), PID (X.blk s H scope (compEnvC scope cl C X.env) fp) W0 tg1 iter1 ti1)
    (hg1 : ∀ (s : Shared) (H : Hp) (C : Addr) (cl : List (Str × Addr)) (fp : List Addr), PG (X.blk s H scope (compEnvC scope cl C X.env) fp) tg1 (gName j))
    (ht1 : ∀ (s : Shared) (H : Hp) (C : Addr) (cl : List (Str × Addr)) (fp : List Addr), PTsD (X.blk s H scope (compEnvC scope cl C X.env) fp) W0 ifs1 tt1)
    (he : ∀ (s : Shared) (H : Hp) (C : Addr) (cl : List (Str × Addr)) (fp : List Addr), PD (X.blk s H scope (compEnvC scope cl C X.env) fp) W0 elt te) (hs : ∀ x, foldedSetIterable iter X.env x = pure x := by intro _; rfl) (hs1 : ∀ env x, foldedSetIterable iter1 env x = pure x := by intro _ _; rfl) :
    PD X W (.ListComp elt [⟨tg, iter, ifs, 0⟩, ⟨tg1, iter1, ifs1, 0⟩] scope pos) (dLc2 ti (fun d τ => τ.set i (some d)) tt ti1 (fun d τ => τ.set j (some d)) tt1 te (own.map (·.2)) vs1) :=
  ⟨PEimp (pe_lc2 hc hN hi.run ok hv1 hg (fun s H C cl fp => (ht s H C cl fp).run) (fun s H C cl fp => (hi1 s H C cl fp).run) hg1 (fun s H C cl fp => (ht1 s H C cl fp).run) (fun s H C cl fp => (he s H C cl fp).run) hs hs1) fun σ H Q h => lc_read2 hv hw h⟩
end
end DL

set_option maxHeartbeats 1000000
namespace DL
open PySem PySem.Spec L2
/-! ### min(xs, key=len), xs a list of tuples -/
theorem argBest_first (num : Nat → Int) : ∀ k, ∀ j, j < argBest (fun i j => decide (num i < num j)) k → num (argBest (fun i j => decide (num i < num j)) k) < num j
  | 0, j, hj => by simp [argBest] at hj
  | k + 1, j, hj => by
    have h := (argBest_lt num k).2
    have hk := (argBest_lt num k).1
    have ih := argBest_first num k
    simp only [argBest] at hj ⊢
    by_cases c : num (k + 1) < num (argBest (fun i j => decide (num i < num j)) k)
    · simp only [c, decide_true, if_true] at hj ⊢
      exact Int.lt_of_lt_of_le c (h j (by omega))
    · simp only [c, decide_false, Bool.false_eq_true, if_false] at hj ⊢
      exact ih j hj
section
variable {prog : Program} {w : World} {A : Around} {E : Value → Shared → Prop} {s : Shared}
theorem minLen_raw {l : Addr} {Q : Value → Shared → Prop} {its : List Value} {nm : Nat → Int} (hh : A.handled = none) (hl : s.heap.IsList l its.toArray)
    (ht : ∀ i v, its[i]? = some v → ∃ t vs, v = .ref t ∧ PyProof.Rows.IsTup s.heap t vs ∧ (vs.size : Int) = nm i ∧ (vs.size : Int) < 2 ^ 63) (hne : 0 < its.length)
    (h : ∀ v h' tk, its[argBest (fun i j => decide (nm i < nm j)) (its.length - 1)]? = some v → (∀ b o, s.heap.get? b = some o → h'.get? b = some o) → Q v { s with heap := h', toks := tk }) :
    wpAny (model prog w) A (call (.builtin "min") [.ref l] [(Str.ofString "key", .builtin "len")]) Q E s := by
  have hlt : l < s.heap.objs.size := by obtain ⟨_, e, _⟩ := hl; exact Heap.lt_size e
  have hlI : l ≠ s.heap.objs.size := Nat.ne_of_lt hlt
  have W := (Walks.list (prog := prog) (w := w) (A := A.in1) hh s.heap.objs.size l hlI its.toArray).toS
  refine call_min_walkKB (wpAny_pyIter_list hl ⟨_, _, _, _, _, _, _, fun s' => (∀ b o, s.heap.get? b = some o → s'.heap.get? b = some o) ∧ s'.gens = s.gens ∧ s'.drawn = s.drawn ∧ s'.os = s.os, fun i k _ => ∃ t, k = .int (nm i) t, fun i j => decide (nm i < nm j), rfl, W, ⟨⟨_, Heap.get?_push_size _ rfl, rfl, rfl⟩, hl.push _⟩, fun b hb => ?_, by simpa using hne, ⟨?_, ?_, ?_, ?_⟩, ⟨fun b o e => Heap.get?_push_of_some _ e, rfl, rfl, rfl⟩, fun v s' hP hJ => ?_⟩)
  · show b < (s.heap.push _).objs.size
    rw [Heap.size_push]
    rcases List.mem_cons.mp hb with rfl | hb
    · exact Nat.lt_succ_self _
    · rcases List.mem_cons.mp hb with rfl | hb
      · exact Nat.lt_succ_of_lt hlt
      · cases hb
  · rintro s1 s2 ⟨j1, j2, j3, j4⟩ m
    refine ⟨fun b o e => m.heap b o ?_ (j1 b o e), m.gens.trans j2, m.drawn.trans j3, m.os.trans j4⟩
    have hb := Heap.lt_size e
    intro hm
    rcases List.mem_cons.mp hm with hm | hm
    · have h2 : b = (s.heap.push { cls := .type "list_iterator", data := .fields #[.ref l, .int 0 0] }).objs.size := hm
      rw [Heap.size_push] at h2
      have hb2 : b < s.heap.objs.size := hb
      exact absurd hb2 (by rw [h2]; exact Nat.not_lt.mpr (Nat.le_succ _))
    · rcases List.mem_cons.mp hm with rfl | hm
      · exact absurd hb (Nat.lt_irrefl _)
      · cases hm
  · exact fun i k s1 s2 v _ => v
  · rintro i v s1 o Q1 E1 hi hP ⟨j1, j2, j3, j4⟩ st hS k
    obtain ⟨t, vs, rfl, tp, e, z⟩ := ht i v (by simpa using hP)
    have tp' : PyProof.Rows.IsTup s1.heap t vs := by
      obtain ⟨o, a, b⟩ := tp
      exact ⟨o, j1 _ _ a, b⟩
    refine PyProof.Rows.len_tuple tp' z (k _ _ ⟨j1, j2, j3, j4⟩ st hS ⟨_, by rw [e]⟩ fun _ _ x => x)
  · rintro i j ki kj s1 Q1 E1 _ ⟨t, rfl⟩ ⟨u, rfl⟩ q
    exact CmpOf.ints_lt (prog := prog) (w := w) (A := A.in1) (P := fun i v => ∃ t, v = .int (nm i) t) nm (fun i v h => h) i j _ _ _ _ _ ⟨t, rfl⟩ ⟨u, rfl⟩ q
  · obtain ⟨j1, j2, j3, j4⟩ := hJ
    have e : s' = { s with heap := s'.heap, toks := s'.toks } := by
      cases s'; cases s; simp only at j2 j3 j4; subst j2; subst j3; subst j4; rfl
    rw [e]
    refine h v _ _ ?_ j1
    have : its.toArray.size = its.length := List.size_toArray ..
    rw [← this]
    simpa using hP
end
def lenT : D → Nat
  | .tup xs => xs.length
  | _ => 0
section
variable {X : Cx} {W : DW} {pos p p2 kp : Pos} {e : Expr}
def rMinLen (K : PySem.W.Frag) : List V → Hp → VK → Prop := fun vs H1 Q => ∃ (a : Addr) (xs : List V) (nm : Nat → Int), vs = [.ref a] ∧ SqL K H1 a xs ∧ 0 < xs.length ∧ (∀ i v, xs[i]? = some v → ∃ t ys, v = .ref t ∧ SqT K H1 t ys ∧ (ys.length : Int) = nm i) ∧
      ∀ v, xs[argBest (fun i j => decide (nm i < nm j)) (xs.length - 1)]? = some v → Q v H1
theorem pe_minLen {te : TE} (hc : X.calm = true) (hg : Gl X "min") (hm : X.mg "min" = none) (hgl : Gl X "len") (hml : X.mg "len" = none) (he : PE X e te) (hst : starEach [e] X.env = [(false, eval e X.env)] := by rfl) :
    PE X (.Call (.Name "min" p) [e] [⟨some "key", .Name "len" p2, kp⟩] pos) (fun σ H Q => te σ H fun x H1 => rMinLen X.K [x] H1 Q) := by
  refine ⟨fun pins s σ H Q I h => ?_⟩
  refine wpAny_Call_Name_kw (ld_blt I hg hm (u := .builtin "min") bt_min ?_)
  refine PyProof.Rows.callWith_kw (thn ((pa_cons he pa_nil hst).run pos pins s σ H (fun vs H1 => rMinLen X.K vs H1 Q) I h) fun us s1 ⟨vs, H1, I1, r1, q1⟩ => ?_) (by rw [hst]; rfl) (by rw [hst]; rfl) rfl rfl
  show wpAny _ _ (evalAll [(do let v ← eval (.Name "len" p2) X.env; standAt pos; pure v)]) _ _ s1
  refine wpAny_evalAll_cons (wpAny_bind (ld_blt I1 hgl hml (u := .builtin "len") bt_len (wpAny_bind (wpAny_standAt (wpAny_pure (wpAny_evalAll_nil ?_))))))
  show wpAny _ _ (call (.builtin "min") us [(Str.ofString "key", .builtin "len")]) _ _ s1
  obtain ⟨a, xs, nm, rfl, hs, hne, ht, k⟩ := q1
  obtain rfl := Vals.ref1 r1
  obtain ⟨its, rv, hl, hz⟩ := I1.list hs
  have hlen := rv.length
  have back : ∀ {i : Nat} {v : Value}, its[i]? = some v → ∃ x, xs[i]? = some x ∧ RelV x v := fun {i v} hv => by
    have hi : i < its.length := (List.getElem?_eq_some_iff.mp hv).1
    obtain ⟨u, hu, r⟩ := rv.get (List.getElem?_eq_getElem (show i < xs.length by omega))
    rw [hv] at hu; cases hu
    exact ⟨_, List.getElem?_eq_getElem (by omega), r⟩
  refine minLen_raw (nm := nm) (I1.ok.hd hc) hl.isList (fun i v hv => ?_) (by omega) fun v h' tk hv hk => ?_
  · obtain ⟨x, hx, r⟩ := back hv
    obtain ⟨t, ys, rfl, hq, e⟩ := ht i x hx
    cases r
    obtain ⟨it2, r2, tp, z2⟩ := I1.tuple hq
    have l2 := r2.length
    refine ⟨t, it2.toArray, rfl, tp, by rw [List.size_toArray, ← l2]; exact e, ?_⟩
    have := sizeLine_eq
    rw [List.size_toArray]
    omega
  · rw [← hlen] at hv
    obtain ⟨x, hx, r⟩ := back hv
    exact ⟨x, H1, I1.kept hk, r, k x hx⟩
def dMinLen (te : DE) : DE := fun τ M Q E => te τ M (fun d M1 => match d with
  | .ref a => match seqOf M1 a with
    | some ds => ds ≠ [] ∧ (∀ x, x ∈ ds → ∃ ys, x = .tup ys) ∧ ∀ (i : Nat) (x : D), ds[i]? = some x → (∀ (j : Nat) (y : D), ds[j]? = some y → lenT x ≤ lenT y) → (∀ (j : Nat) (y : D), j < i → ds[j]? = some y → lenT x < lenT y) → Q x M1
    | none => False
  | _ => False) E
theorem pd_minLen {te : DE} (hc : X.calm = true) (hg : Gl X "min") (hm : X.mg "min" = none) (hgl : Gl X "len") (hml : X.mg "len" = none) (he : PD X W e te) (hst : starEach [e] X.env = [(false, eval e X.env)] := by rfl) :
    PD X W (.Call (.Name "min" p) [e] [⟨some "key", .Name "len" p2, kp⟩] pos) (dMinLen te) := by
  refine ⟨PEimp (pe_minLen hc hg hm hgl hml he.run hst) fun σ H Q ⟨τ, M, Qd, Ed, hs, hr, q, we, k⟩ => ⟨τ, M, _, _, hs, hr, q, we, fun d M1 v H1 q1 e1 r h1 => ?_⟩⟩
  dsimp only at q1
  split at q1
  · rename_i a
    split at q1
    · rename_i ds es
      obtain ⟨vs, sl, rl⟩ := seqOf_ok h1 es
      obtain ⟨q1, q2, q3⟩ := q1
      have hl := rl.length
      have hp : 0 < ds.length := List.length_pos_iff.mpr q1
      refine ⟨a, vs, fun i => ((lenT (ds.getD i .non) : Nat) : Int), by rw [r.toRef], sl, by omega, fun i v hv => ?_, fun v hv => ?_⟩
      · have hi : i < ds.length := by have := (List.getElem?_eq_some_iff.mp hv).1; omega
        obtain ⟨x, hx, rx⟩ := rl.get (List.getElem?_eq_getElem hi)
        rw [hv] at hx; cases hx
        obtain ⟨ys, e⟩ := q2 _ (List.getElem_mem hi)
        rw [e] at rx
        obtain ⟨t, us, rfl, s2, l2⟩ := rx.toTup
        refine ⟨t, us, rfl, s2, ?_⟩
        show ((us.length : Nat) : Int) = ((lenT (ds.getD i .non) : Nat) : Int)
        rw [List.getD_eq_getElem?_getD, List.getElem?_eq_getElem hi, Option.getD_some, e, l2.length]
        rfl
      · generalize hb : argBest (fun i j => decide (((lenT (ds.getD i .non) : Nat) : Int) < ((lenT (ds.getD j .non) : Nat) : Int))) (vs.length - 1) = b at hv
        have b1 := argBest_lt (fun i => ((lenT (ds.getD i .non) : Nat) : Int)) (vs.length - 1)
        have b2 := argBest_first (fun i => ((lenT (ds.getD i .non) : Nat) : Int)) (vs.length - 1)
        rw [hb] at b1 b2
        have hi : b < ds.length := by omega
        obtain ⟨x, hx, rx⟩ := rl.get (List.getElem?_eq_getElem hi)
        rw [hv] at hx; cases hx
        have gd : ∀ {j : Nat} {y : D}, ds[j]? = some y → ds.getD j .non = y := fun {j y} h => by rw [List.getD_eq_getElem?_getD, h, Option.getD_some]
        have hx := List.getElem?_eq_getElem hi
        refine k _ _ _ _ (q3 b ds[b] hx (fun j y hy => ?_) fun j y hj hy => ?_) e1 rx h1
        · have hj : j < ds.length := (List.getElem?_eq_some_iff.mp hy).1
          have := b1.2 j (by omega)
          rw [gd hy, gd hx] at this
          omega
        · have := b2 j hj
          rw [gd hy, gd hx] at this
          omega
    · exact q1.elim
  · exact q1.elim
end
section
variable {X : Cx}
/-- & -/
theorem op_andD : OpR X (binaryOp .BitAnd) (liftO X.K (oI0 fun i j => .int (Builtin.bitAnd i j))) := oI0_of op_and fun _ _ _ => .int _
end
end DL

set_option maxHeartbeats 4000000
namespace DU
open PySem PySem.Spec L2 DL
/-! ### trees of duels -/
inductive Tr where
  | lf (o : Int)
  | nd (s : Int) (ts : List Tr)
inductive Ch where
  | leaf (n : Nat)
  | node (n : Nat)
deriving DecidableEq
mutual
def Tr.toD : Tr → D
  | .lf o => .tup [.str "end", .int o]
  | .nd s ts => .tup (.str "node" :: .int s :: toDs ts)
def toDs : List Tr → List D
  | [] => []
  | t :: ts => t.toD :: toDs ts
end
mutual
def Tr.ends : Tr → List Int
  | .lf o => [o]
  | .nd _ ts => endsL ts
def endsL : List Tr → List Int
  | [] => []
  | t :: ts => t.ends ++ endsL ts
end
mutual
def Tr.sides : Tr → List Int
  | .lf _ => []
  | .nd s ts => s :: sidesL ts
def sidesL : List Tr → List Int
  | [] => []
  | t :: ts => t.sides ++ sidesL ts
end
def Tr.nl (t : Tr) : Nat := t.ends.length
def Tr.nn (t : Tr) : Nat := t.sides.length
def nlL (ts : List Tr) : Nat := (endsL ts).length
def nnL (ts : List Tr) : Nat := (sidesL ts).length
theorem nl_lf {o : Int} : (Tr.lf o).nl = 1 := by simp [Tr.nl, Tr.ends]
theorem nn_lf {o : Int} : (Tr.lf o).nn = 0 := by simp [Tr.nn, Tr.sides]
theorem nl_nd {s : Int} {ts : List Tr} : (Tr.nd s ts).nl = nlL ts := by simp [Tr.nl, nlL, Tr.ends]
theorem nn_nd {s : Int} {ts : List Tr} : (Tr.nd s ts).nn = nnL ts + 1 := by simp [Tr.nn, nnL, Tr.sides]
theorem nlL_nil : nlL [] = 0 := by simp [nlL, endsL]
theorem nnL_nil : nnL [] = 0 := by simp [nnL, sidesL]
theorem nlL_cons {t : Tr} {ts : List Tr} : nlL (t :: ts) = t.nl + nlL ts := by simp [nlL, Tr.nl, endsL]
theorem nnL_cons {t : Tr} {ts : List Tr} : nnL (t :: ts) = t.nn + nnL ts := by simp [nnL, Tr.nn, sidesL]
theorem toDs_map : ∀ ts : List Tr, toDs ts = ts.map Tr.toD
  | [] => by simp [toDs]
  | t :: ts => by simp [toDs, toDs_map ts]
mutual
def Tr.ht : Tr → Nat
  | .lf _ => 0
  | .nd _ ts => htL ts + 1
def htL : List Tr → Nat
  | [] => 0
  | t :: ts => max t.ht (htL ts)
end
def bit (o : Int) : Prop := o = 0 ∨ o = 1
instance (o : Int) : Decidable (bit o) := inferInstanceAs (Decidable (_ ∨ _))
mutual
def Tr.wf : Tr → Prop
  | .lf o => bit o
  | .nd s ts => bit s ∧ 1 ≤ ts.length ∧ ts.length ≤ 12 ∧ wfL ts
def wfL : List Tr → Prop
  | [] => True
  | t :: ts => t.wf ∧ wfL ts
end
theorem wfL_mem : ∀ {ts : List Tr}, wfL ts ↔ ∀ t, t ∈ ts → t.wf
  | [] => by simp [wfL]
  | t :: ts => by simp [wfL, wfL_mem (ts := ts)]
theorem htL_mem : ∀ {ts : List Tr} {t : Tr}, t ∈ ts → t.ht ≤ htL ts
  | t :: ts, u, h => by
    rw [htL]
    rcases List.mem_cons.mp h with rfl | h
    · omega
    · have := htL_mem h; omega
/-! where a tree's root and the roots beneath its nodes stand -/
def Tr.root : Tr → Nat → Nat → Ch
  | .lf _, _, l => .leaf l
  | .nd _ _, n, _ => .node n
def roots : List Tr → Nat → Nat → List Ch
  | [], _, _ => []
  | t :: ts, n, l => t.root n l :: roots ts (n + t.nn) (l + t.nl)
mutual
def Tr.kids : Tr → Nat → Nat → List (List Ch)
  | .lf _, _, _ => []
  | .nd _ ts, n, l => roots ts (n + 1) l :: kidsL ts (n + 1) l
def kidsL : List Tr → Nat → Nat → List (List Ch)
  | [], _, _ => []
  | t :: ts, n, l => t.kids n l ++ kidsL ts (n + t.nn) (l + t.nl)
end
theorem roots_len : ∀ {ts : List Tr} {n l : Nat}, (roots ts n l).length = ts.length
  | [], _, _ => rfl
  | t :: ts, n, l => by simp [roots, roots_len (ts := ts)]
mutual
theorem kids_len : ∀ (t : Tr) (n l : Nat), (t.kids n l).length = t.nn
  | .lf _, n, l => by simp [Tr.kids, nn_lf]
  | .nd _ ts, n, l => by simp [Tr.kids, nn_nd, kidsL_len ts]
theorem kidsL_len : ∀ (ts : List Tr) (n l : Nat), (kidsL ts n l).length = nnL ts
  | [], n, l => by simp [kidsL, nnL_nil]
  | t :: ts, n, l => by simp [kidsL, nnL_cons, kids_len t, kidsL_len ts]
end
/-! a rule for nodes, values of leaves -/
section
variable {α : Type} (f : Nat → Int → List α → α) (g : Nat → α)
mutual
def evalT : Tr → Nat → Nat → α
  | .lf _, _, l => g l
  | .nd s ts, n, l => f n s (evalL ts (n + 1) l)
def evalL : List Tr → Nat → Nat → List α
  | [], _, _ => []
  | t :: ts, n, l => evalT t n l :: evalL ts (n + t.nn) (l + t.nl)
end
mutual
def valsT : Tr → Nat → Nat → List α
  | .lf _, _, _ => []
  | .nd s ts, n, l => f n s (evalL f g ts (n + 1) l) :: valsL ts (n + 1) l
def valsL : List Tr → Nat → Nat → List α
  | [], _, _ => []
  | t :: ts, n, l => valsT t n l ++ valsL ts (n + t.nn) (l + t.nl)
end
mutual
theorem vals_len : ∀ (t : Tr) (n l : Nat), (valsT f g t n l).length = t.nn
  | .lf _, n, l => by simp [valsT, nn_lf]
  | .nd _ ts, n, l => by simp [valsT, nn_nd, valsL_len ts]
theorem valsL_len : ∀ (ts : List Tr) (n l : Nat), (valsL f g ts n l).length = nnL ts
  | [], n, l => by simp [valsL, nnL_nil]
  | t :: ts, n, l => by simp [valsL, nnL_cons, vals_len t, valsL_len ts]
end
/-- what stands at a root, the nodes' values being W -/
def atC (W : Nat → α) : Ch → α
  | .leaf n => g n
  | .node n => W n
theorem root_val {W : Nat → α} : ∀ (t : Tr) (n l : Nat), (∀ j x, (valsT f g t n l)[j]? = some x → W (n + j) = x) → atC g W (t.root n l) = evalT f g t n l
  | .lf _, n, l, _ => by simp [Tr.root, atC, evalT]
  | .nd s ts, n, l, h => by
    have := h 0 (f n s (evalL f g ts (n + 1) l)) (by simp [valsT])
    simp only [Tr.root, atC, evalT]
    simpa using this
theorem roots_val {W : Nat → α} : ∀ (ts : List Tr) (n l : Nat), (∀ j x, (valsL f g ts n l)[j]? = some x → W (n + j) = x) → (roots ts n l).map (atC g W) = evalL f g ts n l
  | [], n, l, _ => by simp [roots, evalL]
  | t :: ts, n, l, h => by
    simp only [roots, evalL, List.map_cons]
    have hl := vals_len f g t n l
    rw [root_val f g (W := W) t n l fun j x hx => h j x (by
      rw [valsL, List.getElem?_append_left]
      · exact hx
      · exact (List.getElem?_eq_some_iff.mp hx).1), roots_val ts (n + t.nn) (l + t.nl) fun j x hx => by
      have := h (t.nn + j) x (by
        rw [valsL, List.getElem?_append_right (by omega), hl]
        simpa using hx)
      rw [← this]; congr 1; omega]
mutual
theorem node_val {W : Nat → α} : ∀ (t : Tr) (n l : Nat), (∀ j x, (valsT f g t n l)[j]? = some x → W (n + j) = x) → ∀ (j : Nat) (s : Int) (ks : List Ch), t.sides[j]? = some s → (t.kids n l)[j]? = some ks → (valsT f g t n l)[j]? = some (f (n + j) s (ks.map (atC g W)))
  | .lf _, n, l, _, j, s, ks, h1, _ => by simp [Tr.sides] at h1
  | .nd s0 ts, n, l, h, j, s, ks, h1, h2 => by
    have hr : ∀ j x, (valsL f g ts (n + 1) l)[j]? = some x → W (n + 1 + j) = x := fun j x hx => by
      have := h (j + 1) x (by rw [valsT]; simpa using hx)
      rw [← this]; congr 1; omega
    cases j with
    | zero =>
      simp [Tr.sides] at h1
      simp [Tr.kids] at h2
      subst h1; subst h2
      rw [roots_val f g ts (n + 1) l hr]
      simp [valsT]
    | succ j =>
      simp only [Tr.sides, List.getElem?_cons_succ] at h1
      simp only [Tr.kids, List.getElem?_cons_succ] at h2
      have := nodeL_val ts (n + 1) l hr j s ks h1 h2
      rw [valsT, List.getElem?_cons_succ, this]
      congr 2; omega
theorem nodeL_val {W : Nat → α} : ∀ (ts : List Tr) (n l : Nat), (∀ j x, (valsL f g ts n l)[j]? = some x → W (n + j) = x) → ∀ (j : Nat) (s : Int) (ks : List Ch), (sidesL ts)[j]? = some s → (kidsL ts n l)[j]? = some ks → (valsL f g ts n l)[j]? = some (f (n + j) s (ks.map (atC g W)))
  | [], n, l, _, j, s, ks, h1, _ => by simp [sidesL] at h1
  | t :: ts, n, l, h, j, s, ks, h1, h2 => by
    have hl := vals_len f g t n l
    have hk := kids_len t n l
    have hs : t.sides.length = t.nn := rfl
    rw [sidesL] at h1
    rw [kidsL] at h2
    rw [valsL]
    by_cases c : j < t.nn
    · rw [List.getElem?_append_left (by omega)] at h1 h2 ⊢
      exact node_val t n l (fun i x hx => h i x (by
        rw [valsL, List.getElem?_append_left]
        · exact hx
        · exact (List.getElem?_eq_some_iff.mp hx).1)) j s ks h1 h2
    · rw [List.getElem?_append_right (by omega)] at h1 h2 ⊢
      rw [hs] at h1; rw [hk] at h2; rw [hl]
      have := nodeL_val ts (n + t.nn) (l + t.nl) (fun i x hx => by
        have := h (t.nn + i) x (by
          rw [valsL, List.getElem?_append_right (by omega), hl]
          simpa using hx)
        rw [← this]; congr 1; omega) (j - t.nn) s ks h1 h2
      rw [this]
      congr 2; omega
end
end
/-- roots beneath stand behind -/
def inR (n n2 l l2 : Nat) : Ch → Prop
  | .leaf m => l ≤ m ∧ m < l2
  | .node m => n ≤ m ∧ m < n2
theorem root_in : ∀ (t : Tr) (n l : Nat), inR n (n + t.nn) l (l + t.nl) (t.root n l)
  | .lf _, n, l => by simp [Tr.root, inR, nl_lf]
  | .nd _ ts, n, l => by simp [Tr.root, inR, nn_nd]
theorem roots_in : ∀ (ts : List Tr) (n l : Nat) (c : Ch), c ∈ roots ts n l → inR n (n + nnL ts) l (l + nlL ts) c
  | [], n, l, c, h => by simp [roots] at h
  | t :: ts, n, l, c, h => by
    rw [nnL_cons, nlL_cons]
    rcases List.mem_cons.mp h with rfl | h
    · have := root_in t n l
      cases e : t.root n l <;> rw [e] at this <;> simp only [inR] at this ⊢ <;> omega
    · have := roots_in ts _ _ c h
      cases c <;> simp only [inR] at this ⊢ <;> omega
mutual
theorem kids_in : ∀ (t : Tr) (n l j : Nat) (ks : List Ch), (t.kids n l)[j]? = some ks → ∀ c, c ∈ ks → inR (n + j + 1) (n + t.nn) l (l + t.nl) c
  | .lf _, n, l, j, ks, h, c, hc => by simp [Tr.kids] at h
  | .nd s ts, n, l, j, ks, h, c, hc => by
    rw [nn_nd, nl_nd]
    cases j with
    | zero =>
      simp [Tr.kids] at h
      subst h
      have := roots_in ts _ _ c hc
      cases c <;> simp only [inR] at this ⊢ <;> omega
    | succ j =>
      simp only [Tr.kids, List.getElem?_cons_succ] at h
      have := kidsL_in ts (n + 1) l j ks h c hc
      cases c <;> simp only [inR] at this ⊢ <;> omega
theorem kidsL_in : ∀ (ts : List Tr) (n l j : Nat) (ks : List Ch), (kidsL ts n l)[j]? = some ks → ∀ c, c ∈ ks → inR (n + j + 1) (n + nnL ts) l (l + nlL ts) c
  | [], n, l, j, ks, h, c, hc => by simp [kidsL] at h
  | t :: ts, n, l, j, ks, h, c, hc => by
    rw [nnL_cons, nlL_cons]
    have hk := kids_len t n l
    rw [kidsL] at h
    by_cases q : j < t.nn
    · rw [List.getElem?_append_left (by omega)] at h
      have := kids_in t n l j ks h c hc
      cases c <;> simp only [inR] at this ⊢ <;> omega
    · rw [List.getElem?_append_right (by omega), hk] at h
      have := kidsL_in ts _ _ (j - t.nn) ks h c hc
      cases c <;> simp only [inR] at this ⊢ <;> omega
end
end DU

set_option maxHeartbeats 4000000
namespace DU
open PySem PySem.Spec L2 DL
section
variable {α β : Type} (h : Nat → Int → List α → β) (f : Nat → Int → List α → α) (g : Nat → α)
/-! ### something for every node -/
mutual
def mapN : Tr → Nat → Nat → List β
  | .lf _, _, _ => []
  | .nd s ts, n, l => h n s (evalL f g ts (n + 1) l) :: mapNL ts (n + 1) l
def mapNL : List Tr → Nat → Nat → List β
  | [], _, _ => []
  | t :: ts, n, l => mapN t n l ++ mapNL ts (n + t.nn) (l + t.nl)
end
mutual
theorem mapN_len : ∀ (t : Tr) (n l : Nat), (mapN h f g t n l).length = t.nn
  | .lf _, n, l => by simp [mapN, nn_lf]
  | .nd _ ts, n, l => by simp [mapN, nn_nd, mapNL_len ts]
theorem mapNL_len : ∀ (ts : List Tr) (n l : Nat), (mapNL h f g ts n l).length = nnL ts
  | [], n, l => by simp [mapNL, nnL_nil]
  | t :: ts, n, l => by simp [mapNL, nnL_cons, mapN_len t, mapNL_len ts]
end
mutual
theorem node_map {W : Nat → α} : ∀ (t : Tr) (n l : Nat), (∀ j x, (valsT f g t n l)[j]? = some x → W (n + j) = x) → ∀ (j : Nat) (s : Int) (ks : List Ch), t.sides[j]? = some s → (t.kids n l)[j]? = some ks → (mapN h f g t n l)[j]? = some (h (n + j) s (ks.map (atC g W)))
  | .lf _, n, l, _, j, s, ks, h1, _ => by simp [Tr.sides] at h1
  | .nd s0 ts, n, l, hW, j, s, ks, h1, h2 => by
    have hr : ∀ j x, (valsL f g ts (n + 1) l)[j]? = some x → W (n + 1 + j) = x := fun j x hx => by
      have := hW (j + 1) x (by rw [valsT]; simpa using hx)
      rw [← this]; congr 1; omega
    cases j with
    | zero =>
      simp [Tr.sides] at h1
      simp [Tr.kids] at h2
      subst h1; subst h2
      rw [roots_val f g ts (n + 1) l hr]
      simp [mapN]
    | succ j =>
      simp only [Tr.sides, List.getElem?_cons_succ] at h1
      simp only [Tr.kids, List.getElem?_cons_succ] at h2
      have := nodeL_map ts (n + 1) l hr j s ks h1 h2
      rw [mapN, List.getElem?_cons_succ, this]
      congr 2; omega
theorem nodeL_map {W : Nat → α} : ∀ (ts : List Tr) (n l : Nat), (∀ j x, (valsL f g ts n l)[j]? = some x → W (n + j) = x) → ∀ (j : Nat) (s : Int) (ks : List Ch), (sidesL ts)[j]? = some s → (kidsL ts n l)[j]? = some ks → (mapNL h f g ts n l)[j]? = some (h (n + j) s (ks.map (atC g W)))
  | [], n, l, _, j, s, ks, h1, _ => by simp [sidesL] at h1
  | t :: ts, n, l, hW, j, s, ks, h1, h2 => by
    have hl := vals_len f g t n l
    have hm := mapN_len h f g t n l
    have hk := kids_len t n l
    have hs : t.sides.length = t.nn := rfl
    rw [sidesL] at h1
    rw [kidsL] at h2
    rw [mapNL]
    by_cases c : j < t.nn
    · rw [List.getElem?_append_left (by omega)] at h1 h2 ⊢
      exact node_map t n l (fun i x hx => hW i x (by
        rw [valsL, List.getElem?_append_left]
        · exact hx
        · exact (List.getElem?_eq_some_iff.mp hx).1)) j s ks h1 h2
    · rw [List.getElem?_append_right (by omega)] at h1 h2 ⊢
      rw [hs] at h1; rw [hk] at h2; rw [hm]
      have := nodeL_map ts (n + t.nn) (l + t.nl) (fun i x hx => by
        have := hW (t.nn + i) x (by
          rw [valsL, List.getElem?_append_right (by omega), hl]
          simpa using hx)
        rw [← this]; congr 1; omega) (j - t.nn) s ks h1 h2
      rw [this]
      congr 2; omega
end
end
/-! ### winners -/
def wrule (_ : Nat) (s : Int) (vs : List Int) : Int := if s ∈ vs then s else 1 - s
def lv (es : List Int) (l : Nat) : Int := es.getD l 0
def wins (es : List Int) (t : Tr) : List Int := valsT wrule (lv es) t 0 0
def win (es : List Int) (t : Tr) : Int := evalT wrule (lv es) t 0 0
theorem bit_flip {o : Int} (h : bit o) : bit (1 - o) := by unfold bit at *; omega
theorem lv_bit {es : List Int} (h : ∀ o, o ∈ es → bit o) (l : Nat) : bit (lv es l) := by
  unfold lv
  rw [List.getD_eq_getElem?_getD]
  cases e : es[l]? with
  | none => exact .inl rfl
  | some o => exact h o (List.mem_of_getElem? e)
section
variable {g : Nat → Int}
mutual
theorem win_bit (hg : ∀ l, bit (g l)) : ∀ (t : Tr) (n l : Nat), t.wf → bit (evalT wrule g t n l)
  | .lf _, n, l, _ => by rw [evalT]; exact hg l
  | .nd s ts, n, l, h => by
    rw [evalT]
    rw [Tr.wf] at h
    unfold wrule
    split
    · exact h.1
    · exact bit_flip h.1
theorem winL_bit (hg : ∀ l, bit (g l)) : ∀ (ts : List Tr) (n l : Nat), wfL ts → ∀ x, x ∈ evalL wrule g ts n l → bit x
  | [], n, l, _, x, hx => by simp [evalL] at hx
  | t :: ts, n, l, h, x, hx => by
    rw [wfL] at h
    rw [evalL] at hx
    rcases List.mem_cons.mp hx with rfl | hx
    · exact win_bit hg t n l h.1
    · exact winL_bit hg ts _ _ h.2 x hx
end
mutual
theorem wins_bit (hg : ∀ l, bit (g l)) : ∀ (t : Tr) (n l : Nat), t.wf → ∀ x, x ∈ valsT wrule g t n l → bit x
  | .lf _, n, l, _, x, hx => by simp [valsT] at hx
  | .nd s ts, n, l, h, x, hx => by
    have hh := win_bit hg (.nd s ts) n l h
    rw [evalT] at hh
    rw [valsT] at hx
    rw [Tr.wf] at h
    rcases List.mem_cons.mp hx with rfl | hx
    · exact hh
    · exact winsL_bit hg ts _ _ h.2.2.2 x hx
theorem winsL_bit (hg : ∀ l, bit (g l)) : ∀ (ts : List Tr) (n l : Nat), wfL ts → ∀ x, x ∈ valsL wrule g ts n l → bit x
  | [], n, l, _, x, hx => by simp [valsL] at hx
  | t :: ts, n, l, h, x, hx => by
    rw [wfL] at h
    rw [valsL] at hx
    rcases List.mem_append.mp hx with hx | hx
    · exact wins_bit hg t n l h.1 x hx
    · exact winsL_bit hg ts _ _ h.2 x hx
end
end
/-! ### exchanged -/
mutual
def Tr.sw : Tr → Tr
  | .lf o => .lf (1 - o)
  | .nd s ts => .nd (1 - s) (swL ts)
def swL : List Tr → List Tr
  | [] => []
  | t :: ts => t.sw :: swL ts
end
theorem swL_map : ∀ ts : List Tr, swL ts = ts.map Tr.sw
  | [] => by simp [swL]
  | t :: ts => by simp [swL, swL_map ts]
mutual
theorem sw_ends : ∀ t : Tr, t.sw.ends = t.ends.map (1 - ·)
  | .lf o => by simp [Tr.sw, Tr.ends]
  | .nd s ts => by simp [Tr.sw, Tr.ends, swL_ends ts]
theorem swL_ends : ∀ ts : List Tr, endsL (swL ts) = (endsL ts).map (1 - ·)
  | [] => by simp [swL, endsL]
  | t :: ts => by simp [swL, endsL, sw_ends t, swL_ends ts]
end
mutual
theorem sw_sides : ∀ t : Tr, t.sw.sides = t.sides.map (1 - ·)
  | .lf o => by simp [Tr.sw, Tr.sides]
  | .nd s ts => by simp [Tr.sw, Tr.sides, swL_sides ts]
theorem swL_sides : ∀ ts : List Tr, sidesL (swL ts) = (sidesL ts).map (1 - ·)
  | [] => by simp [swL, sidesL]
  | t :: ts => by simp [swL, sidesL, sw_sides t, swL_sides ts]
end
theorem sw_nl {t : Tr} : t.sw.nl = t.nl := by simp [Tr.nl, sw_ends]
theorem sw_nn {t : Tr} : t.sw.nn = t.nn := by simp [Tr.nn, sw_sides]
theorem sw_root : ∀ (t : Tr) (n l : Nat), t.sw.root n l = t.root n l
  | .lf _, _, _ => rfl
  | .nd _ _, _, _ => rfl
theorem swL_roots : ∀ (ts : List Tr) (n l : Nat), roots (swL ts) n l = roots ts n l
  | [], _, _ => by simp [swL, roots]
  | t :: ts, n, l => by simp [swL, roots, sw_root, sw_nn, sw_nl, swL_roots ts]
mutual
theorem sw_kids : ∀ (t : Tr) (n l : Nat), t.sw.kids n l = t.kids n l
  | .lf _, _, _ => by simp [Tr.sw, Tr.kids]
  | .nd s ts, n, l => by simp [Tr.sw, Tr.kids, swL_roots, swL_kids ts]
theorem swL_kids : ∀ (ts : List Tr) (n l : Nat), kidsL (swL ts) n l = kidsL ts n l
  | [], _, _ => by simp [swL, kidsL]
  | t :: ts, n, l => by simp [swL, kidsL, sw_kids t, sw_nn, sw_nl, swL_kids ts]
end
mutual
theorem sw_wf : ∀ t : Tr, t.wf → t.sw.wf
  | .lf o, h => by rw [Tr.wf] at h; rw [Tr.sw, Tr.wf]; exact bit_flip h
  | .nd s ts, h => by
    rw [Tr.wf] at h
    rw [Tr.sw, Tr.wf]
    exact ⟨bit_flip h.1, by simp [swL_map]; exact h.2.1, by simp [swL_map]; exact h.2.2.1, swL_wf ts h.2.2.2⟩
theorem swL_wf : ∀ ts : List Tr, wfL ts → wfL (swL ts)
  | [], _ => by simp [swL, wfL]
  | t :: ts, h => by rw [wfL] at h; rw [swL, wfL]; exact ⟨sw_wf t h.1, swL_wf ts h.2⟩
end
mutual
theorem sw_ht : ∀ t : Tr, t.sw.ht = t.ht
  | .lf o => by simp [Tr.sw, Tr.ht]
  | .nd s ts => by simp [Tr.sw, Tr.ht, swL_ht ts]
theorem swL_ht : ∀ ts : List Tr, htL (swL ts) = htL ts
  | [] => by simp [swL]
  | t :: ts => by simp [swL, htL, sw_ht t, swL_ht ts]
end
mutual
theorem sw_sw : ∀ t : Tr, t.sw.sw = t
  | .lf o => by simp only [Tr.sw]; congr 1; omega
  | .nd s ts => by
    simp only [Tr.sw, swL_swL ts]
    congr 1; omega
theorem swL_swL : ∀ ts : List Tr, swL (swL ts) = ts
  | [] => by simp [swL]
  | t :: ts => by simp [swL, sw_sw t, swL_swL ts]
end
theorem flip_mem {s : Int} {vs : List Int} : 1 - s ∈ vs.map (1 - ·) ↔ s ∈ vs := by
  rw [List.mem_map]
  constructor
  · rintro ⟨x, hx, e⟩
    have : x = s := by omega
    rw [← this]; exact hx
  · intro hx; exact ⟨s, hx, rfl⟩
mutual
theorem sw_win {g : Nat → Int} : ∀ (t : Tr) (n l : Nat), evalT wrule (fun l => 1 - g l) t.sw n l = 1 - evalT wrule g t n l
  | .lf _, n, l => by simp [Tr.sw, evalT]
  | .nd s ts, n, l => by
    simp only [Tr.sw, evalT, swL_win ts, wrule, flip_mem]
    split <;> omega
theorem swL_win {g : Nat → Int} : ∀ (ts : List Tr) (n l : Nat), evalL wrule (fun l => 1 - g l) (swL ts) n l = (evalL wrule g ts n l).map (1 - ·)
  | [], n, l => by simp [swL, evalL]
  | t :: ts, n, l => by simp [swL, evalL, sw_win t, swL_win ts, sw_nn, sw_nl]
end
/-! ### leaves of other outcomes -/
mutual
def Tr.re (es : List Int) : Tr → Nat → Tr
  | .lf _, l => .lf (lv es l)
  | .nd s ts, l => .nd s (reL es ts l)
def reL (es : List Int) : List Tr → Nat → List Tr
  | [], _ => []
  | t :: ts, l => t.re es l :: reL es ts (l + t.nl)
end
theorem reL_len {es : List Int} : ∀ {ts : List Tr} {l : Nat}, (reL es ts l).length = ts.length
  | [], l => by simp [reL]
  | t :: ts, l => by simp [reL, reL_len (ts := ts)]
mutual
theorem re_ends {es : List Int} : ∀ (t : Tr) (l : Nat), l + t.nl ≤ es.length → (t.re es l).ends = (es.drop l).take t.nl
  | .lf o, l, h => by
    rw [nl_lf] at h ⊢
    simp only [Tr.re, Tr.ends]
    have hl : l < es.length := by omega
    rw [List.drop_eq_getElem_cons hl]
    simp only [lv, List.getD_eq_getElem?_getD, List.getElem?_eq_getElem hl, Option.getD_some, List.take_succ_cons, List.take_zero]
  | .nd s ts, l, h => by
    rw [nl_nd] at h ⊢
    simp only [Tr.re, Tr.ends]
    exact reL_ends ts l h
theorem reL_ends {es : List Int} : ∀ (ts : List Tr) (l : Nat), l + nlL ts ≤ es.length → endsL (reL es ts l) = (es.drop l).take (nlL ts)
  | [], l, h => by simp [reL, endsL, nlL_nil]
  | t :: ts, l, h => by
    rw [nlL_cons] at h ⊢
    simp only [reL, endsL]
    rw [re_ends t l (by omega), reL_ends ts (l + t.nl) (by omega), ← List.drop_drop, List.take_add]
end
mutual
theorem re_sides {es : List Int} : ∀ (t : Tr) (l : Nat), (t.re es l).sides = t.sides
  | .lf o, l => by simp [Tr.re, Tr.sides]
  | .nd s ts, l => by simp [Tr.re, Tr.sides, reL_sides ts]
theorem reL_sides {es : List Int} : ∀ (ts : List Tr) (l : Nat), sidesL (reL es ts l) = sidesL ts
  | [], l => by simp [reL]
  | t :: ts, l => by simp [reL, sidesL, re_sides t, reL_sides ts]
end
mutual
theorem re_nl {es : List Int} : ∀ (t : Tr) (l : Nat), (t.re es l).nl = t.nl
  | .lf o, l => by simp [Tr.re, nl_lf]
  | .nd s ts, l => by simp [Tr.re, nl_nd, reL_nl ts]
theorem reL_nl {es : List Int} : ∀ (ts : List Tr) (l : Nat), nlL (reL es ts l) = nlL ts
  | [], l => by simp [reL]
  | t :: ts, l => by simp [reL, nlL_cons, re_nl t, reL_nl ts]
end
theorem re_nn {es : List Int} {t : Tr} {l : Nat} : (t.re es l).nn = t.nn := by simp [Tr.nn, re_sides]
mutual
theorem re_wf {es : List Int} (he : ∀ l, bit (lv es l)) : ∀ (t : Tr) (l : Nat), t.wf → (t.re es l).wf
  | .lf o, l, h => by rw [Tr.re, Tr.wf]; exact he l
  | .nd s ts, l, h => by
    rw [Tr.wf] at h
    rw [Tr.re, Tr.wf, reL_len]
    exact ⟨h.1, h.2.1, h.2.2.1, reL_wf he ts l h.2.2.2⟩
theorem reL_wf {es : List Int} (he : ∀ l, bit (lv es l)) : ∀ (ts : List Tr) (l : Nat), wfL ts → wfL (reL es ts l)
  | [], l, _ => by simp [reL, wfL]
  | t :: ts, l, h => by rw [wfL] at h; rw [reL, wfL]; exact ⟨re_wf he t l h.1, reL_wf he ts _ h.2⟩
end
mutual
theorem re_ht {es : List Int} : ∀ (t : Tr) (l : Nat), (t.re es l).ht = t.ht
  | .lf o, l => by simp [Tr.re, Tr.ht]
  | .nd s ts, l => by simp [Tr.re, Tr.ht, reL_ht ts]
theorem reL_ht {es : List Int} : ∀ (ts : List Tr) (l : Nat), htL (reL es ts l) = htL ts
  | [], l => by simp [reL]
  | t :: ts, l => by simp [reL, htL, re_ht t, reL_ht ts]
end

mutual
theorem re_eval {α : Type} {f : Nat → Int → List α → α} {g : Nat → α} {es : List Int} : ∀ (t : Tr) (n l k : Nat), evalT f g (t.re es k) n l = evalT f g t n l
  | .lf o, n, l, k => by simp [Tr.re, evalT]
  | .nd s ts, n, l, k => by simp [Tr.re, evalT, reL_eval ts]
theorem reL_eval {α : Type} {f : Nat → Int → List α → α} {g : Nat → α} {es : List Int} : ∀ (ts : List Tr) (n l k : Nat), evalL f g (reL es ts k) n l = evalL f g ts n l
  | [], n, l, k => by simp [reL]
  | t :: ts, n, l, k => by simp [reL, evalL, re_eval t, reL_eval ts, re_nn, re_nl]
end
def good (t : Tr) : Prop := t.wf ∧ t.ht ≤ 20 ∧ t.nn ≤ 200 ∧ t.nl ≤ 200
theorem good_sw {t : Tr} (h : good t) : good t.sw := ⟨sw_wf t h.1, by rw [sw_ht]; exact h.2.1, by rw [sw_nn]; exact h.2.2.1, by rw [sw_nl]; exact h.2.2.2⟩
theorem good_re {t : Tr} {es : List Int} {l : Nat} (he : ∀ l, bit (lv es l)) (h : good t) : good (t.re es l) := ⟨re_wf he t l h.1, by rw [re_ht]; exact h.2.1, by rw [re_nn]; exact h.2.2.1, by rw [re_nl]; exact h.2.2.2⟩
theorem re_ends_all {t : Tr} {es : List Int} (h : es.length = t.nl) : (t.re es 0).ends = es := by
  rw [re_ends t 0 (by omega), List.drop_zero, ← h, List.take_length]
theorem ends_bit : ∀ {t : Tr}, t.wf → ∀ o, o ∈ t.ends → bit o := by
  have both : (∀ t : Tr, t.wf → ∀ o, o ∈ t.ends → bit o) := fun t => by
    exact Tr.rec (motive_1 := fun t => t.wf → ∀ o, o ∈ t.ends → bit o) (motive_2 := fun ts => wfL ts → ∀ o, o ∈ endsL ts → bit o)
      (fun o h x hx => by rw [Tr.ends, List.mem_singleton] at hx; rw [Tr.wf] at h; subst hx; exact h)
      (fun s ts ih h x hx => by rw [Tr.ends] at hx; rw [Tr.wf] at h; exact ih h.2.2.2 x hx)
      (fun _ x hx => by simp [endsL] at hx)
      (fun t ts i1 i2 h x hx => by rw [wfL] at h; rw [endsL, List.mem_append] at hx; exact hx.elim (i1 h.1 x) (i2 h.2 x)) t
  exact fun {t} => both t
theorem sides_bit : ∀ {t : Tr}, t.wf → ∀ o, o ∈ t.sides → bit o := by
  have both : (∀ t : Tr, t.wf → ∀ o, o ∈ t.sides → bit o) := fun t => by
    exact Tr.rec (motive_1 := fun t => t.wf → ∀ o, o ∈ t.sides → bit o) (motive_2 := fun ts => wfL ts → ∀ o, o ∈ sidesL ts → bit o)
      (fun o h x hx => by simp [Tr.sides] at hx)
      (fun s ts ih h x hx => by
        rw [Tr.sides] at hx; rw [Tr.wf] at h
        rcases List.mem_cons.mp hx with rfl | hx
        · exact h.1
        · exact ih h.2.2.2 x hx)
      (fun _ x hx => by simp [sidesL] at hx)
      (fun t ts i1 i2 h x hx => by rw [wfL] at h; rw [sidesL, List.mem_append] at hx; exact hx.elim (i1 h.1 x) (i2 h.2 x)) t
  exact fun {t} => both t
end DU

set_option maxHeartbeats 4000000
namespace DU
open PySem PySem.Spec L2 DL
/-! ### plans -/
abbrev Pl := List (Option Int)
def irule (p : Pl) (n : Nat) (_ : Int) (vs : List Bool) : Bool := match p[n]? with
  | some none => vs.all id
  | some (some k) => vs.getD k.toNat false
  | none => false
def sel (p : Pl) (n : Nat) : Option Int := p.getD n none
mutual
def reachT (p : Pl) : Tr → Nat → Nat → List Nat
  | .lf _, _, l => [l]
  | .nd _ ts, n, l => reachL p (sel p n) 0 ts (n + 1) l
def reachL (p : Pl) (e : Option Int) : Nat → List Tr → Nat → Nat → List Nat
  | _, [], _, _ => []
  | i, t :: ts, n, l => (if e = none ∨ e = some (i : Int) then reachT p t n l else []) ++ reachL p e (i + 1) ts (n + t.nn) (l + t.nl)
end

mutual
def okP (p : Pl) : Tr → Nat → Prop
  | .lf _, _ => True
  | .nd _ ts, n => n < p.length ∧ (∀ k, p[n]? = some (some k) → 0 ≤ k ∧ k < ts.length) ∧ okPL p ts (n + 1)
def okPL (p : Pl) : List Tr → Nat → Prop
  | [], _ => True
  | t :: ts, n => okP p t n ∧ okPL p ts (n + t.nn)
end
theorem sel_of {p : Pl} {n : Nat} {e : Option Int} (h : p[n]? = some e) : sel p n = e := by
  unfold sel
  rw [List.getD_eq_getElem?_getD, h]; rfl
theorem reachL_one {p : Pl} {k : Int} : ∀ {ts : List Tr} {n l i : Nat}, k < (i : Int) → reachL p (some k) i ts n l = []
  | [], n, l, i, h => by simp [reachL]
  | t :: ts, n, l, i, h => by
    rw [reachL, if_neg, List.nil_append]
    · exact reachL_one (by omega)
    · rintro (z | z)
      · cases z
      · cases z; omega
section
variable (p : Pl) (g : Nat → Bool)
mutual
theorem reach_win : ∀ (t : Tr) (n l : Nat), okP p t n → evalT (irule p) g t n l = (reachT p t n l).all g
  | .lf _, n, l, _ => by simp [evalT, reachT]
  | .nd s ts, n, l, h => by
    rw [okP] at h
    obtain ⟨h1, h2, h3⟩ := h
    have e := List.getElem?_eq_getElem h1
    rw [evalT, reachT, sel_of e]
    unfold irule
    rw [e]
    cases c : p[n] with
    | none => simp only; exact reach_all ts (n + 1) l 0 h3
    | some k =>
      have hk := h2 k (by rw [e, c])
      have := reach_at ts (n + 1) l 0 k h3 (by omega) (by omega)
      simp only
      rw [← this]
      congr 1
      simp
theorem reach_all : ∀ (ts : List Tr) (n l i : Nat), okPL p ts n → (evalL (irule p) g ts n l).all id = (reachL p none i ts n l).all g
  | [], n, l, i, _ => by simp [evalL, reachL]
  | t :: ts, n, l, i, h => by
    rw [okPL] at h
    rw [evalL, reachL, if_pos (.inl rfl), List.all_cons, List.all_append, reach_win t n l h.1, reach_all ts _ _ (i + 1) h.2]
    rfl
theorem reach_at : ∀ (ts : List Tr) (n l i : Nat) (k : Int), okPL p ts n → (i : Int) ≤ k → k < i + ts.length → (evalL (irule p) g ts n l).getD (k - i).toNat false = (reachL p (some k) i ts n l).all g
  | [], n, l, i, k, _, h1, h2 => by simp at h2; omega
  | t :: ts, n, l, i, k, h, h1, h2 => by
    rw [okPL] at h
    rw [evalL, reachL]
    by_cases c : k = i
    · subst c
      rw [if_pos (.inr rfl), reachL_one (by omega), List.append_nil, ← reach_win t n l h.1]
      simp
    · rw [if_neg (by rintro (z | z); · cases z
                     · cases z; exact c rfl), List.nil_append]
      have := reach_at ts (n + t.nn) (l + t.nl) (i + 1) k h.2 (by omega) (by simp at h2; omega)
      rw [← this]
      have e : (k - (i : Int)).toNat = (k - ((i + 1 : Nat) : Int)).toNat + 1 := by omega
      rw [e, List.getD_cons_succ]
end
end
mutual
theorem reach_in (p : Pl) : ∀ (t : Tr) (n l m : Nat), m ∈ reachT p t n l → l ≤ m ∧ m < l + t.nl
  | .lf _, n, l, m, h => by rw [reachT, List.mem_singleton] at h; rw [nl_lf]; omega
  | .nd s ts, n, l, m, h => by rw [reachT] at h; rw [nl_nd]; exact reachL_in p _ _ ts _ l m h
theorem reachL_in (p : Pl) (e : Option Int) : ∀ (i : Nat) (ts : List Tr) (n l m : Nat), m ∈ reachL p e i ts n l → l ≤ m ∧ m < l + nlL ts
  | i, [], n, l, m, h => by simp [reachL] at h
  | i, t :: ts, n, l, m, h => by
    rw [nlL_cons]
    rw [reachL, List.mem_append] at h
    rcases h with h | h
    · split at h
      · have := reach_in p t n l m h; omega
      · simp at h
    · have := reachL_in p e (i + 1) ts _ _ m h; omega
end
mutual
theorem reach_ne (p : Pl) : ∀ (t : Tr) (n l : Nat), t.wf → okP p t n → reachT p t n l ≠ []
  | .lf _, n, l, _, _ => by simp [reachT]
  | .nd s ts, n, l, w, h => by
    rw [okP] at h
    rw [Tr.wf] at w
    obtain ⟨h1, h2, h3⟩ := h
    have e := List.getElem?_eq_getElem h1
    rw [reachT, sel_of e]
    cases c : p[n] with
    | none => exact reachL_ne p none ts _ l 0 w.2.2.2 h3 (by cases ts with
        | nil => simp at w
        | cons t r => exact ⟨0, by simp, .inl rfl⟩)
    | some k =>
      have hk := h2 k (by rw [e, c])
      exact reachL_ne p (some k) ts _ l 0 w.2.2.2 h3 ⟨k.toNat, by omega, .inr (by congr 1; omega)⟩
theorem reachL_ne (p : Pl) (e : Option Int) : ∀ (ts : List Tr) (n l i : Nat), wfL ts → okPL p ts n → (∃ j, j < ts.length ∧ (e = none ∨ e = some ((i + j : Nat) : Int))) → reachL p e i ts n l ≠ []
  | [], n, l, i, _, _, ⟨j, hj, _⟩ => by simp at hj
  | t :: ts, n, l, i, w, h, ⟨j, hj, he⟩ => by
    rw [wfL] at w
    rw [okPL] at h
    rw [reachL]
    cases j with
    | zero =>
      rw [if_pos (by simpa using he)]
      intro z
      exact reach_ne p t n l w.1 h.1 (List.append_eq_nil_iff.mp z).1
    | succ j =>
      intro z
      refine reachL_ne p e ts _ _ (i + 1) w.2 h.2 ⟨j, by simpa using hj, ?_⟩ (List.append_eq_nil_iff.mp z).2
      rcases he with he | he
      · exact .inl he
      · exact .inr (by rw [he]; congr 1; omega)
end
/-! exchanged -/
mutual
theorem sw_reach (p : Pl) : ∀ (t : Tr) (n l : Nat), reachT p t.sw n l = reachT p t n l
  | .lf _, n, l => by simp [Tr.sw, reachT]
  | .nd s ts, n, l => by simp [Tr.sw, reachT, swL_reach p _ ts]
theorem swL_reach (p : Pl) (e : Option Int) : ∀ (ts : List Tr) (i n l : Nat), reachL p e i (swL ts) n l = reachL p e i ts n l
  | [], i, n, l => by simp [swL, reachL]
  | t :: ts, i, n, l => by simp [swL, reachL, sw_reach p t, sw_nn, sw_nl, swL_reach p e ts]
end
mutual
theorem sw_okP (p : Pl) : ∀ (t : Tr) (n : Nat), okP p t n → okP p t.sw n
  | .lf _, n, _ => by simp [Tr.sw, okP]
  | .nd s ts, n, h => by
    rw [okP] at h
    rw [Tr.sw, okP]
    exact ⟨h.1, by simpa [swL_map] using h.2.1, swL_okP p ts _ h.2.2⟩
theorem swL_okP (p : Pl) : ∀ (ts : List Tr) (n : Nat), okPL p ts n → okPL p (swL ts) n
  | [], n, _ => by simp [swL, okPL]
  | t :: ts, n, h => by
    rw [okPL] at h
    rw [swL, okPL, sw_nn]
    exact ⟨sw_okP p t n h.1, swL_okP p ts _ h.2⟩
end
def isWin (t : Tr) (p : Pl) (goal : Int) : Bool := evalT (irule p) (fun l => decide (lv t.ends l = goal)) t 0 0
theorem isWin_reach {t : Tr} {p : Pl} {goal : Int} (h : okP p t 0) : isWin t p goal = (reachT p t 0 0).all fun l => decide (lv t.ends l = goal) := reach_win p _ t 0 0 h
theorem lv_sw {es : List Int} {l : Nat} (h : l < es.length) : lv (es.map (1 - ·)) l = 1 - lv es l := by
  unfold lv
  rw [List.getD_eq_getElem?_getD, List.getD_eq_getElem?_getD, List.getElem?_map, List.getElem?_eq_getElem h]
  rfl
theorem isWin_sw {t : Tr} {p : Pl} {goal : Int} (h : okP p t 0) : isWin t.sw p (1 - goal) = isWin t p goal := by
  rw [isWin_reach h, isWin_reach (sw_okP p t 0 h), sw_reach, sw_ends]
  rw [Bool.eq_iff_iff, List.all_eq_true, List.all_eq_true]
  constructor
  · intro q l hl
    have := q l hl
    rw [lv_sw (by have := (reach_in p t 0 0 l hl).2; simpa [Tr.nl] using this)] at this
    simp at this ⊢; omega
  · intro q l hl
    have := q l hl
    rw [lv_sw (by have := (reach_in p t 0 0 l hl).2; simpa [Tr.nl] using this)]
    simp at this ⊢; omega
/-! the winning plan -/
def prule (oc : Int) (_ : Nat) (s : Int) (vs : List Int) : Option Int := if s ≠ oc then none else if oc ∈ vs then some ((vs.idxOf oc : Nat) : Int) else some 0
def planT (oc : Int) (g : Nat → Int) (t : Tr) : Pl := mapN (prule oc) wrule g t 0 0
theorem evalL_len {α : Type} {f : Nat → Int → List α → α} {g : Nat → α} : ∀ {ts : List Tr} {n l : Nat}, (evalL f g ts n l).length = ts.length
  | [], n, l => by simp [evalL]
  | t :: ts, n, l => by simp [evalL, evalL_len (ts := ts)]
section
variable (p : Pl) (oc : Int) (g : Nat → Int)
mutual
theorem plan_ok : ∀ (t : Tr) (n l : Nat), t.wf → (∀ j x, (mapN (prule oc) wrule g t n l)[j]? = some x → p[n + j]? = some x) → okP p t n
  | .lf _, n, l, _, _ => by simp [okP]
  | .nd s ts, n, l, w, h => by
    rw [Tr.wf] at w
    rw [okP]
    have h0 := h 0 (prule oc n s (evalL wrule g ts (n + 1) l)) (by simp [mapN])
    rw [Nat.add_zero] at h0
    refine ⟨(List.getElem?_eq_some_iff.mp h0).1, fun k hk => ?_, planL_ok ts (n + 1) l w.2.2.2 fun j x hx => by
      have := h (j + 1) x (by rw [mapN]; simpa using hx)
      rw [← this]; congr 1; omega⟩
    rw [h0] at hk
    have hk := Option.some.inj hk
    unfold prule at hk
    split at hk
    · cases hk
    · split at hk
      · rename_i hm
        have := List.idxOf_lt_length_iff.mpr hm
        rw [evalL_len] at this
        cases hk; omega
      · cases hk; omega
theorem planL_ok : ∀ (ts : List Tr) (n l : Nat), wfL ts → (∀ j x, (mapNL (prule oc) wrule g ts n l)[j]? = some x → p[n + j]? = some x) → okPL p ts n
  | [], n, l, _, _ => by simp [okPL]
  | t :: ts, n, l, w, h => by
    rw [wfL] at w
    rw [okPL]
    have hl := mapN_len (prule oc) wrule g t n l
    refine ⟨plan_ok t n l w.1 fun j x hx => h j x (by
      rw [mapNL, List.getElem?_append_left]
      · exact hx
      · exact (List.getElem?_eq_some_iff.mp hx).1), planL_ok ts _ (l + t.nl) w.2 fun j x hx => by
      have := h (t.nn + j) x (by
        rw [mapNL, List.getElem?_append_right (by omega), hl]
        simpa using hx)
      rw [← this]; congr 1; omega⟩
end
mutual
theorem plan_reach (hoc : bit oc) (hg : ∀ l, bit (g l)) : ∀ (t : Tr) (n l : Nat), t.wf → (∀ j x, (mapN (prule oc) wrule g t n l)[j]? = some x → p[n + j]? = some x) → evalT wrule g t n l = oc → ∀ m, m ∈ reachT p t n l → g m = oc
  | .lf _, n, l, _, _, e, m, hm => by
    rw [reachT, List.mem_singleton] at hm
    subst hm
    simpa [evalT] using e
  | .nd s ts, n, l, w, h, e, m, hm => by
    have w' := w
    rw [Tr.wf] at w
    have h0 := h 0 (prule oc n s (evalL wrule g ts (n + 1) l)) (by simp [mapN])
    rw [Nat.add_zero] at h0
    rw [reachT, sel_of h0] at hm
    rw [evalT] at e
    have hr : ∀ j x, (mapNL (prule oc) wrule g ts (n + 1) l)[j]? = some x → p[n + 1 + j]? = some x := fun j x hx => by
      have := h (j + 1) x (by rw [mapN]; simpa using hx)
      rw [← this]; congr 1; omega
    refine planL_reach hoc hg (prule oc n s (evalL wrule g ts (n + 1) l)) ts (n + 1) l 0 w.2.2.2 hr ?_ m hm
    intro j x hx hj
    have bx := winL_bit hg ts (n + 1) l w.2.2.2 x (List.mem_of_getElem? hx)
    unfold prule at hj
    have e : (if s ∈ evalL wrule g ts (n + 1) l then s else 1 - s) = oc := e
    by_cases c : s ≠ oc
    · rw [if_pos c] at hj
      by_cases c2 : s ∈ evalL wrule g ts (n + 1) l
      · rw [if_pos c2] at e; exact absurd e c
      · rw [if_neg c2] at e
        have : x ≠ s := fun z => c2 (by rw [← z]; exact List.mem_of_getElem? hx)
        have bs := w.1
        unfold bit at bx bs hoc
        omega
    · rw [if_neg c] at hj
      have c' : s = oc := Classical.byContradiction c
      have hm2 : oc ∈ evalL wrule g ts (n + 1) l := by
        by_cases c2 : s ∈ evalL wrule g ts (n + 1) l
        · rw [← c']; exact c2
        · rw [if_neg c2] at e
          have bs := w.1
          unfold bit at bs
          omega
      rw [if_pos hm2] at hj
      rcases hj with hj | hj
      · cases hj
      · have ej : (evalL wrule g ts (n + 1) l).idxOf oc = j := by
          have := Option.some.inj hj
          omega
        have hlt := List.idxOf_lt_length_iff.mpr hm2
        have := List.getElem_idxOf hlt
        have e3 := List.getElem?_eq_getElem hlt
        rw [this, ej, hx] at e3
        exact Option.some.inj e3
theorem planL_reach (hoc : bit oc) (hg : ∀ l, bit (g l)) (e : Option Int) : ∀ (ts : List Tr) (n l i : Nat), wfL ts → (∀ j x, (mapNL (prule oc) wrule g ts n l)[j]? = some x → p[n + j]? = some x) →
    (∀ j x, (evalL wrule g ts n l)[j]? = some x → (e = none ∨ e = some ((i + j : Nat) : Int)) → x = oc) → ∀ m, m ∈ reachL p e i ts n l → g m = oc
  | [], n, l, i, _, _, _, m, hm => by simp [reachL] at hm
  | t :: ts, n, l, i, w, h, hx, m, hm => by
    rw [wfL] at w
    have hl := mapN_len (prule oc) wrule g t n l
    rw [reachL, List.mem_append] at hm
    rcases hm with hm | hm
    · split at hm
      · rename_i he
        refine plan_reach hoc hg t n l w.1 (fun j x hx => h j x (by
          rw [mapNL, List.getElem?_append_left]
          · exact hx
          · exact (List.getElem?_eq_some_iff.mp hx).1)) (hx 0 _ (by simp [evalL]) (by simpa using he)) m hm
      · simp at hm
    · refine planL_reach hoc hg e ts _ _ (i + 1) w.2 (fun j x hx => ?_) (fun j x hj he => hx (j + 1) x (by rw [evalL]; simpa using hj) ?_) m hm
      · have := h (t.nn + j) x (by
          rw [mapNL, List.getElem?_append_right (by omega), hl]
          simpa using hx)
        rw [← this]; congr 1; omega
      · rcases he with he | he
        · exact .inl he
        · exact .inr (by rw [he]; congr 1; omega)
end
end
theorem flip_idx {oc : Int} : ∀ {vs : List Int}, (vs.map (1 - ·)).idxOf (1 - oc) = vs.idxOf oc
  | [] => rfl
  | v :: vs => by
    rw [List.map_cons, List.idxOf_cons, List.idxOf_cons, flip_idx (vs := vs)]
    by_cases c : v = oc
    · subst c; simp
    · have c2 : ¬ (1 - v = 1 - oc) := by omega
      rw [beq_eq_false_iff_ne.mpr c, beq_eq_false_iff_ne.mpr c2]
theorem flip_prule {oc : Int} {n : Nat} {s : Int} {vs : List Int} : prule (1 - oc) n (1 - s) (vs.map (1 - ·)) = prule oc n s vs := by
  unfold prule
  rw [flip_idx]
  simp only [flip_mem]
  by_cases c : s = oc
  · subst c; simp
  · have : ¬ (1 - s = 1 - oc) := by omega
    simp [c, this]
mutual
theorem sw_planN {oc : Int} {g : Nat → Int} : ∀ (t : Tr) (n l : Nat), mapN (prule (1 - oc)) wrule (fun l => 1 - g l) t.sw n l = mapN (prule oc) wrule g t n l
  | .lf _, n, l => by simp [Tr.sw, mapN]
  | .nd s ts, n, l => by
    rw [Tr.sw, mapN, mapN, swL_win, flip_prule, sw_planNL ts]
theorem sw_planNL {oc : Int} {g : Nat → Int} : ∀ (ts : List Tr) (n l : Nat), mapNL (prule (1 - oc)) wrule (fun l => 1 - g l) (swL ts) n l = mapNL (prule oc) wrule g ts n l
  | [], n, l => by simp [swL, mapNL]
  | t :: ts, n, l => by rw [swL, mapNL, mapNL, sw_planN t, sw_nn, sw_nl, sw_planNL ts]
end
end DU

set_option maxHeartbeats 4000000
namespace DU
open PySem PySem.Spec L2 DL
/-! ### how many outcomes of the leaves a side wins -/
def pk (c : Int × Int) (v : Int) : Int := if v = 0 then c.1 else c.2
mutual
def cT : Tr → Int × Int
  | .lf _ => (1, 1)
  | .nd s ts => if s = 0 then ((cL (1 - s) ts).1 - (cL (1 - s) ts).2, (cL (1 - s) ts).2) else ((cL (1 - s) ts).2, (cL (1 - s) ts).1 - (cL (1 - s) ts).2)
def cL (v : Int) : List Tr → Int × Int
  | [] => (1, 1)
  | t :: ts => (((cT t).1 + (cT t).2) * (cL v ts).1, pk (cT t) v * (cL v ts).2)
end
def bt (x l : Nat) : Int := ((x / 2 ^ l % 2 : Nat) : Int)
theorem bt_bit (x l : Nat) : bit (bt x l) := by
  unfold bt bit
  have := Nat.mod_lt (x / 2 ^ l) (show 0 < 2 by omega)
  omega
section
variable {α : Type} {f : Nat → Int → List α → α}
mutual
theorem eval_congr {g g' : Nat → α} : ∀ (t : Tr) (n l : Nat), (∀ m, l ≤ m → m < l + t.nl → g m = g' m) → evalT f g t n l = evalT f g' t n l
  | .lf _, n, l, h => by rw [evalT, evalT]; exact h l (by omega) (by rw [nl_lf]; omega)
  | .nd s ts, n, l, h => by rw [evalT, evalT, evalL_congr ts (n + 1) l fun m h1 h2 => h m h1 (by rw [nl_nd]; exact h2)]
theorem evalL_congr {g g' : Nat → α} : ∀ (ts : List Tr) (n l : Nat), (∀ m, l ≤ m → m < l + nlL ts → g m = g' m) → evalL f g ts n l = evalL f g' ts n l
  | [], n, l, h => by simp [evalL]
  | t :: ts, n, l, h => by
    rw [nlL_cons] at h
    rw [evalL, evalL, eval_congr t n l fun m h1 h2 => h m h1 (by omega), evalL_congr ts _ _ fun m h1 h2 => h m (by omega) (by omega)]
end
end
mutual
theorem win_shift {g : Nat → Int} {k : Nat} : ∀ (t : Tr) (n n' l : Nat), evalT wrule g t n (k + l) = evalT wrule (fun m => g (k + m)) t n' l
  | .lf _, n, n', l => by rw [evalT, evalT]
  | .nd s ts, n, n', l => by rw [evalT, evalT, winL_shift ts (n + 1) (n' + 1) l]; rfl
theorem winL_shift {g : Nat → Int} {k : Nat} : ∀ (ts : List Tr) (n n' l : Nat), evalL wrule g ts n (k + l) = evalL wrule (fun m => g (k + m)) ts n' l
  | [], n, n', l => by simp [evalL]
  | t :: ts, n, n', l => by rw [evalL, evalL, win_shift t n n' l, Nat.add_assoc, winL_shift ts _ (n' + t.nn) (l + t.nl)]
end
def cnt (N : Nat) (P : Nat → Bool) : Nat := (List.range N).countP P
theorem cnt_congr {N : Nat} {P P' : Nat → Bool} (h : ∀ x, x < N → P x = P' x) : cnt N P = cnt N P' := by
  unfold cnt
  exact List.countP_congr fun x hx => by rw [h x (List.mem_range.mp hx)]
theorem cnt_succ {N : Nat} {P : Nat → Bool} : cnt (N + 1) P = cnt N P + if P N = true then 1 else 0 := by
  unfold cnt
  rw [List.range_succ, List.countP_append]
  simp [List.countP_cons]
theorem cnt_add {N k : Nat} {P : Nat → Bool} : cnt (N + k) P = cnt N P + cnt k (fun x => P (N + x)) := by
  induction k with
  | zero => simp [cnt]
  | succ k ih => rw [← Nat.add_assoc, cnt_succ, ih, cnt_succ]; omega
theorem cnt_mul {m : Nat} (hm : 0 < m) {A B : Nat → Bool} : ∀ k, cnt (m * k) (fun x => A (x % m) && B (x / m)) = cnt m A * cnt k B
  | 0 => by simp [cnt]
  | k + 1 => by
    rw [Nat.mul_succ, cnt_add, cnt_mul hm k, cnt_succ]
    have : cnt m (fun x => A ((m * k + x) % m) && B ((m * k + x) / m)) = cnt m fun x => A x && B k := cnt_congr fun x hx => by
      rw [Nat.mul_add_mod, Nat.mod_eq_of_lt hx, Nat.mul_add_div hm, Nat.div_eq_of_lt hx, Nat.add_zero]
    rw [this, Nat.mul_add]
    congr 1
    cases B k
    · simp [cnt]
    · simp
theorem cnt_not {N : Nat} {P : Nat → Bool} : cnt N (fun x => !P x) + cnt N P = N := by
  induction N with
  | zero => simp [cnt]
  | succ N ih =>
    rw [cnt_succ, cnt_succ]
    cases P N <;> simp <;> omega
theorem bt_low {x l m : Nat} (h : l < m) : bt (x % 2 ^ m) l = bt x l := by
  unfold bt
  obtain ⟨k, rfl⟩ : ∃ k, m = l + (k + 1) := ⟨m - l - 1, by omega⟩
  congr 1
  rw [Nat.pow_add, Nat.mod_mul_right_div_self, Nat.pow_succ, Nat.mul_comm, Nat.mod_mul_right_mod]
theorem bt_high {x l m : Nat} : bt x (m + l) = bt (x / 2 ^ m) l := by
  unfold bt
  rw [Nat.pow_add, Nat.div_div_eq_div_mul]
def wx (t : Tr) (x : Nat) : Int := evalT wrule (bt x) t 0 0
def allx (v : Int) (ts : List Tr) (x : Nat) : Bool := (evalL wrule (bt x) ts 0 0).all fun y => decide (y = v)
theorem allx_cons {v : Int} {t : Tr} {ts : List Tr} {x : Nat} : allx v (t :: ts) x = (decide (wx t (x % 2 ^ t.nl) = v) && allx v ts (x / 2 ^ t.nl)) := by
  unfold allx wx
  rw [evalL, List.all_cons]
  have h1 : evalT wrule (bt (x % 2 ^ t.nl)) t 0 0 = evalT wrule (bt x) t 0 0 := eval_congr t 0 0 fun m _ h => bt_low (by omega)
  have h2 : evalL wrule (bt x) ts (0 + t.nn) (0 + t.nl) = evalL wrule (bt (x / 2 ^ t.nl)) ts 0 0 := by
    have := winL_shift (g := bt x) (k := t.nl) ts (0 + t.nn) 0 0
    rw [Nat.add_zero] at this
    rw [Nat.zero_add t.nl, this]
    congr 1
    funext m
    exact bt_high
  rw [h1, h2]
theorem leaf_cnt {v : Int} (hv : bit v) : (1 : Int) = (cnt (2 ^ 1) fun x => decide (bt x 0 = v) : Nat) := by
  rcases hv with rfl | rfl <;> decide +kernel
mutual
theorem cT_cnt : ∀ (t : Tr), t.wf → (∀ v, bit v → pk (cT t) v = (cnt (2 ^ t.nl) fun x => decide (wx t x = v) : Nat)) ∧ (cT t).1 + (cT t).2 = ((2 ^ t.nl : Nat) : Int)
  | .lf o, _ => by
    have a : ∀ v, bit v → pk (cT (.lf o)) v = (cnt (2 ^ (Tr.lf o).nl) fun x => decide (wx (.lf o) x = v) : Nat) := fun v hv => by
      rw [nl_lf, cT]
      unfold wx pk
      simp only [evalT, ite_self]
      exact leaf_cnt hv
    exact ⟨a, by rw [nl_lf, cT]; rfl⟩
  | .nd s ts, w => by
    rw [Tr.wf] at w
    obtain ⟨hs, _, _, w⟩ := w
    obtain ⟨a1, a2⟩ := cL_cnt (1 - s) (bit_flip hs) ts w
    have key : ∀ x, wx (.nd s ts) x = if allx (1 - s) ts x = true then 1 - s else s := fun x => by
      have b := winL_bit (g := bt x) (bt_bit x) ts 1 0 w
      have e0 : evalL wrule (bt x) ts 1 0 = evalL wrule (bt x) ts 0 0 := by
        have := winL_shift (g := bt x) (k := 0) ts 1 0 0
        simpa using this
      unfold wx
      rw [evalT, Nat.zero_add, e0]
      rw [e0] at b
      show (if s ∈ evalL wrule (bt x) ts 0 0 then s else 1 - s) = _
      unfold allx
      by_cases c : s ∈ evalL wrule (bt x) ts 0 0
      · rw [if_pos c, if_neg]
        intro z
        have := List.all_eq_true.mp z s c
        simp at this
        unfold bit at hs
        omega
      · rw [if_neg c, if_pos]
        refine List.all_eq_true.mpr fun y hy => ?_
        have by_ := b y hy
        have : y ≠ s := fun z => c (z ▸ hy)
        unfold bit at hs by_
        simp
        omega
    have lost : ((cnt (2 ^ (Tr.nd s ts).nl) fun x => decide (wx (.nd s ts) x = 1 - s) : Nat) : Int) = (cL (1 - s) ts).2 := by
      rw [a2, nl_nd]
      congr 1
      refine cnt_congr fun x _ => ?_
      rw [key]
      by_cases c : allx (1 - s) ts x = true
      · rw [if_pos c, c]; simp
      · rw [if_neg c]
        have : allx (1 - s) ts x = false := by simpa using c
        rw [this]
        unfold bit at hs
        simp
        omega
    have won : ((cnt (2 ^ (Tr.nd s ts).nl) fun x => decide (wx (.nd s ts) x = s) : Nat) : Int) = (cL (1 - s) ts).1 - (cL (1 - s) ts).2 := by
      rw [← lost, a1, ← nl_nd (s := s)]
      have h : (cnt (2 ^ (Tr.nd s ts).nl) fun x => decide (wx (.nd s ts) x = s)) = cnt (2 ^ (Tr.nd s ts).nl) fun x => !decide (wx (.nd s ts) x = 1 - s) := cnt_congr fun x _ => by
        rw [key]
        unfold bit at hs
        split
        · simp; omega
        · simp; omega
      have := cnt_not (N := 2 ^ (Tr.nd s ts).nl) (P := fun x => decide (wx (.nd s ts) x = 1 - s))
      rw [h]
      omega
    refine ⟨fun v hv => ?_, ?_⟩
    · rw [cT]
      unfold pk
      rcases hs with rfl | rfl <;> rcases hv with rfl | rfl <;> simp at lost won ⊢ <;> omega
    · rw [cT, nl_nd, ← a1]
      split <;> simp <;> omega
theorem cL_cnt (v : Int) (hv : bit v) : ∀ (ts : List Tr), wfL ts → (cL v ts).1 = ((2 ^ nlL ts : Nat) : Int) ∧ (cL v ts).2 = (cnt (2 ^ nlL ts) (allx v ts) : Nat)
  | [], _ => by
    rw [nlL_nil, cL]
    refine ⟨rfl, ?_⟩
    unfold cnt allx
    simp [evalL]
  | t :: ts, w => by
    rw [wfL] at w
    obtain ⟨a1, a2⟩ := cT_cnt t w.1
    obtain ⟨b1, b2⟩ := cL_cnt v hv ts w.2
    rw [nlL_cons, cL, Nat.pow_add]
    refine ⟨by rw [a2, b1, Int.natCast_mul], ?_⟩
    show pk (cT t) v * (cL v ts).2 = _
    rw [a1 v hv, b2, ← Int.natCast_mul]
    congr 1
    rw [← cnt_mul (Nat.pow_pos (by omega))]
    exact cnt_congr fun x _ => allx_cons.symm
end
end DU

set_option maxHeartbeats 4000000
namespace DU
open PySem PySem.Spec L2 DL
/-! ### how the program and the laws hold duels -/
def chD : Ch → D
  | .leaf l => .tup [.str "leaf", .int ((l : Nat) : Int)]
  | .node n => .tup [.str "node", .int ((n : Nat) : Int)]
def lchD : Ch → D
  | .leaf l => .tup [.int 0, .int ((l : Nat) : Int)]
  | .node n => .tup [.int 1, .int ((n : Nat) : Int)]
def plD : Option Int → D
  | none => .non
  | some i => .int i
def planD (p : Pl) : D := .tup (p.map plD)
def intsD (es : List Int) : D := .tup (es.map D.int)
def kidsD (ks : List Ch) : D := .tup (ks.map chD)
def duelF (t : Tr) : List (Str × D) := [("root", chD (t.root 0 0)), ("tree", t.toD), ("ends", intsD t.ends), ("sides", intsD t.sides), ("children", .tup ((t.kids 0 0).map kidsD))]
def DuelAt (C : Addr) (M : Mp) (a : Addr) (t : Tr) : Prop := M a = some (.ins C (duelF t))
theorem duelF_root {t : Tr} : (duelF t).lookup ("root" : Str) = some ((chD (t.root 0 0)) : D) := rfl
theorem duelF_tree {t : Tr} : (duelF t).lookup ("tree" : Str) = some (t.toD : D) := rfl
theorem duelF_ends {t : Tr} : (duelF t).lookup ("ends" : Str) = some ((intsD t.ends) : D) := rfl
theorem duelF_sides {t : Tr} : (duelF t).lookup ("sides" : Str) = some ((intsD t.sides) : D) := rfl
theorem duelF_children {t : Tr} : (duelF t).lookup ("children" : Str) = some ((D.tup ((t.kids 0 0).map kidsD)) : D) := rfl
def ar (t : Tr) : List Nat := (t.kids 0 0).map List.length
theorem ar_len {t : Tr} : (ar t).length = t.nn := by unfold ar; rw [List.length_map, kids_len]
def okAt (p : Pl) (ks : List Nat) (i : Nat) : Prop := ∃ e k, p[i]? = some e ∧ ks[i]? = some k ∧ ∀ o : Int, e = some o → 0 ≤ o ∧ o < k
def plOk (t : Tr) (p : Pl) : Prop := p.length = t.nn ∧ ∀ i, i < t.nn → okAt p (ar t) i
def firstBad (t : Tr) (p : Pl) (i : Nat) : Prop := i < max p.length t.nn ∧ (∀ j, j < i → okAt p (ar t) j) ∧ ¬ okAt p (ar t) i
/-- the law's list of nodes: u stands from node n, leaf l on -/
def NodesIn (M : Mp) (rs : List Addr) (ss : List Int) (ks : List (List Ch)) (n : Nat) : Prop := ∀ (j : Nat) (s : Int) (k : List Ch), ss[j]? = some s → ks[j]? = some k → ∃ r o, rs[n + j]? = some r ∧ M r = some (.lst [.int s, .ref o]) ∧ M o = some (.lst (k.map lchD))
def NodesAt (M : Mp) (a : Addr) (t : Tr) : Prop := ∃ rs : List Addr, M a = some (.lst (rs.map D.ref)) ∧ rs.length = t.nn ∧ NodesIn M rs t.sides (t.kids 0 0) 0
mutual
theorem okP_of {p : Pl} : ∀ (t : Tr) (n l : Nat), (∀ j ks, (t.kids n l)[j]? = some ks → ∃ e, p[n + j]? = some e ∧ ∀ o : Int, e = some o → 0 ≤ o ∧ o < ks.length) → okP p t n
  | .lf _, n, l, _ => by simp [okP]
  | .nd s ts, n, l, h => by
    rw [okP]
    obtain ⟨e, h1, h2⟩ := h 0 (roots ts (n + 1) l) (by simp [Tr.kids])
    rw [Nat.add_zero] at h1
    refine ⟨(List.getElem?_eq_some_iff.mp h1).1, fun k hk => ?_, okPL_of ts (n + 1) l fun j ks hj => ?_⟩
    · rw [h1] at hk
      have := h2 k (by simpa using hk)
      rwa [roots_len] at this
    · have := h (j + 1) ks (by rw [Tr.kids, List.getElem?_cons_succ]; exact hj)
      rw [show n + (j + 1) = n + 1 + j by omega] at this
      exact this
theorem okPL_of {p : Pl} : ∀ (ts : List Tr) (n l : Nat), (∀ j ks, (kidsL ts n l)[j]? = some ks → ∃ e, p[n + j]? = some e ∧ ∀ o : Int, e = some o → 0 ≤ o ∧ o < ks.length) → okPL p ts n
  | [], n, l, _ => by simp [okPL]
  | t :: ts, n, l, h => by
    rw [okPL]
    refine ⟨okP_of t n l fun j ks hj => h j ks ?_, okPL_of ts (n + t.nn) (l + t.nl) fun j ks hj => ?_⟩
    · have hl := (List.getElem?_eq_some_iff.mp hj).1
      rw [kidsL, List.getElem?_append_left hl]; exact hj
    · have := h (t.nn + j) ks (by rw [kidsL, List.getElem?_append_right (by rw [kids_len]; omega), kids_len, Nat.add_sub_cancel_left]; exact hj)
      rw [← Nat.add_assoc] at this
      exact this
end
theorem plOk_okP {t : Tr} {p : Pl} (h : plOk t p) : okP p t 0 := okP_of t 0 0 fun j ks hj => by
  have hl := (List.getElem?_eq_some_iff.mp hj).1
  rw [kids_len] at hl
  obtain ⟨e, k, h1, h2, h3⟩ := h.2 j hl
  refine ⟨e, by rw [Nat.zero_add]; exact h1, fun o ho => ?_⟩
  unfold ar at h2
  rw [List.getElem?_map, hj] at h2
  simp at h2
  rw [h2]
  exact h3 o ho
theorem NodesIn.ext {S : Addr → Prop} {M M' : Mp} {rs : List Addr} {ss : List Int} {ks : List (List Ch)} {n : Nat} (h : NodesIn M rs ss ks n) (e : Ext S M M') (hs : ∀ x, S x → ∀ s o, M x ≠ some (.lst [.int s, .ref o])) (hs2 : ∀ x, S x → ∀ k : List Ch, M x ≠ some (.lst (k.map lchD))) : NodesIn M' rs ss ks n := fun j s k h1 h2 => by
  obtain ⟨r, o, e1, e2, e3⟩ := h j s k h1 h2
  exact ⟨r, o, e1, e _ _ (fun z => hs r z s o e2) e2, e _ _ (fun z => hs2 o z k e3) e3⟩
theorem NodesIn.sub {M M' : Mp} {rs : List Addr} {ss : List Int} {ks : List (List Ch)} {n : Nat} (h : NodesIn M rs ss ks n) (e : Sub M M') : NodesIn M' rs ss ks n := h.ext (S := fun _ => False) (.sub e) (fun _ z => z.elim) fun _ z => z.elim
theorem pst_ne2 {M : Mp} {s l a : Addr} {ns : List Int} {xs : List D} (P : PSt M s l ns) (h : M a = some (.lst xs)) (n : xs.length ≠ 4 ∨ ∃ d, xs[0]? = some d ∧ ∀ i, d ≠ .int i) : a ≠ s := by
  rintro rfl
  obtain ⟨_, _, _, _, _, hs, _⟩ := P
  rw [hs] at h
  simp only [Option.some.injEq, MO.lst.injEq] at h
  rcases n with n | ⟨d, h1, h2⟩
  · rw [← h] at n; simp at n
  · rw [← h] at h1
    simp at h1
    exact h2 _ h1.symm
theorem NodesIn.draw {M M' : Mp} {s l : Addr} {ns : List Int} {rs : List Addr} {ss : List Int} {ks : List (List Ch)} {n : Nat} (h : NodesIn M rs ss ks n) (P : PSt M s l ns) (e : Ext (Is s) M M') : NodesIn M' rs ss ks n := h.ext e (fun x hx a b q => pst_ne2 P q (.inl (by simp)) hx) fun x hx k q => by
  cases k with
  | nil => exact pst_ne2 P q (.inl (by simp)) hx
  | cons c k => exact pst_ne2 P q (.inr ⟨lchD c, by simp, fun i => by cases c <;> simp [lchD]⟩) hx
theorem NodesAt.draw {M M' : Mp} {s l a : Addr} {ns : List Int} {t : Tr} (h : NodesAt M a t) (P : PSt M s l ns) (e : Ext (Is s) M M') : NodesAt M' a t := by
  obtain ⟨rs, h1, h2, h3⟩ := h
  refine ⟨rs, e _ _ (fun hx => ?_) h1, h2, h3.draw P e⟩
  cases rs with
  | nil => exact pst_ne2 P h1 (.inl (by simp)) hx
  | cons r rs => exact pst_ne2 P h1 (.inr ⟨.ref r, by simp, fun i => by simp⟩) hx
theorem DuelAt.draw {C : Addr} {M M' : Mp} {s l a : Addr} {ns : List Int} {t : Tr} (h : DuelAt C M a t) (P : PSt M s l ns) (e : Ext (Is s) M M') : DuelAt C M' a t := e _ _ (by
  rintro rfl
  obtain ⟨_, _, _, _, _, hs, _⟩ := P
  rw [DuelAt, hs] at h; cases h) h
theorem NodesAt.sub {M M' : Mp} {a : Addr} {t : Tr} (h : NodesAt M a t) (e : Sub M M') : NodesAt M' a t := by
  obtain ⟨rs, h1, h2, h3⟩ := h
  exact ⟨rs, e _ _ h1, h2, h3.sub e⟩
/-- values of a list or a tuple -/
def sq : D → Mp → Option (List D)
  | .tup xs, _ => some xs
  | .ref a, M => seqOf M a
  | _, _ => none
theorem ixG_sq {d : D} {M : Mp} {xs : List D} {i : Nat} {v : D} {Q : DK} (h : sq d M = some xs) (e : xs[i]? = some v) : ixG d (.int ((i : Nat) : Int)) M Q = Q v M := by
  cases d <;> simp [sq] at h
  · subst h; exact ixG_nat e
  · unfold ixG
    simp only [h, Option.bind_some, atI_nat e]
/-! lists of trees -/
theorem endsL_app : ∀ (ts us : List Tr), endsL (ts ++ us) = endsL ts ++ endsL us
  | [], us => by simp [endsL]
  | t :: ts, us => by simp [endsL, endsL_app ts us]
theorem sidesL_app : ∀ (ts us : List Tr), sidesL (ts ++ us) = sidesL ts ++ sidesL us
  | [], us => by simp [sidesL]
  | t :: ts, us => by simp [sidesL, sidesL_app ts us]
theorem nlL_app {ts us : List Tr} : nlL (ts ++ us) = nlL ts + nlL us := by simp [nlL, endsL_app]
theorem nnL_app {ts us : List Tr} : nnL (ts ++ us) = nnL ts + nnL us := by simp [nnL, sidesL_app]
theorem nlL_rev {ts : List Tr} : nlL ts.reverse = nlL ts := by
  induction ts with
  | nil => rfl
  | cons t ts ih => rw [List.reverse_cons, nlL_app, ih, nlL_cons, nlL_cons, nlL_nil]; omega
theorem nnL_rev {ts : List Tr} : nnL ts.reverse = nnL ts := by
  induction ts with
  | nil => rfl
  | cons t ts ih => rw [List.reverse_cons, nnL_app, ih, nnL_cons, nnL_cons, nnL_nil]; omega
theorem htL_le {ts : List Tr} {n : Nat} : htL ts ≤ n ↔ ∀ t, t ∈ ts → t.ht ≤ n := by
  induction ts with
  | nil => simp [htL]
  | cons t ts ih => simp [htL, Nat.max_le, ih]
theorem kidsL_app : ∀ (ts us : List Tr) (n l : Nat), kidsL (ts ++ us) n l = kidsL ts n l ++ kidsL us (n + nnL ts) (l + nlL ts)
  | [], us, n, l => by simp [kidsL, nnL_nil, nlL_nil]
  | t :: ts, us, n, l => by rw [List.cons_append, kidsL, kidsL_app ts us, kidsL, List.append_assoc, nnL_cons, nlL_cons, Nat.add_assoc, Nat.add_assoc]
theorem roots_app : ∀ (ts us : List Tr) (n l : Nat), roots (ts ++ us) n l = roots ts n l ++ roots us (n + nnL ts) (l + nlL ts)
  | [], us, n, l => by simp [roots, nnL_nil, nlL_nil]
  | t :: ts, us, n, l => by rw [List.cons_append, roots, roots_app ts us, roots, List.cons_append, nnL_cons, nlL_cons, Nat.add_assoc, Nat.add_assoc]
/-- a comprehension of pure items -/
theorem dCL_map {α : Type} {G : D → Sl → Sl} {te : DE} {kp : Mp → Prop} {p : Addr} {τ : Sl} {F : Mp → Prop} {its : List D} {M : Mp} {xs : List α} (g f : α → D) (hi : its = xs.map g) (hl : xs.length ≤ 16000000) (hk : ∀ ys, kp (put M p (.lst ys)))
    (step : ∀ a, a ∈ xs → ∀ (ys : List D) (k : D → Mp → Prop), k (f a) (put M p (.lst ys)) → te (G (g a) τ) (put M p (.lst ys)) k noE) (done : F (put M p (.lst (xs.map f)))) : dCL G dYes te kp p τ F its (put M p (.lst [])) := by
  subst hi
  refine dCL_pure f (xs.map some) (by simp) (by simpa using hl) hk ?_ ?_
  · intro i d a ys k k2 h1 h2 q1 q2
    rw [List.getElem?_map] at h1 h2
    cases e : xs[i]? with
    | none => rw [e] at h1; cases h1
    | some x =>
      rw [e] at h1 h2
      simp at h1 h2
      subst h1; subst h2
      unfold dYes
      simp only [if_true]
      exact step x (List.mem_of_getElem? e) ys k (q1 x rfl)
  · rw [List.filterMap_map]
    have : (id ∘ some : α → Option α) = some := rfl
    rw [this, List.filterMap_some]
    exact done
end DU

set_option maxHeartbeats 4000000
namespace DU
open PySem PySem.Spec L2 DL
/-! ### a list that is filled from the last place on -/
section
variable {α : Type} {f : α → D} {W : List α} {L E : List D}
def Filled (f : α → D) (W : List α) (k : Nat) (L : List D) : Prop := L.length = W.length ∧ ∀ m w, k ≤ m → W[m]? = some w → L[m]? = some (f w)
theorem fill_start (h : L.length = W.length) : Filled f W W.length L := ⟨h, fun m w h1 h2 => by have := (List.getElem?_eq_some_iff.mp h2).1; omega⟩
theorem fill_set {j : Nat} {w : α} (h : Filled f W (j + 1) L) (e : W[j]? = some w) : Filled f W j (L.set j (f w)) := ⟨by rw [List.length_set]; exact h.1, fun m v h1 h2 => by
  by_cases c : j = m
  · subst c
    rw [e] at h2; cases h2
    rw [List.getElem?_set_self]
    have := (List.getElem?_eq_some_iff.mp e).1
    have := h.1; omega
  · rw [List.getElem?_set_ne c]
    exact h.2 m v (by omega) h2⟩
theorem fill_all (h : Filled f W 0 L) : L = W.map f := by
  apply List.ext_getElem?
  intro m
  rw [List.getElem?_map]
  cases e : W[m]? with
  | none =>
    have := List.getElem?_eq_none_iff.mp e
    simpa using (by have := h.1; omega : L.length ≤ m)
  | some w => exact h.2 m w (by omega) e
def valC (E L : List D) (v : D) : Ch → Prop
  | .leaf l => E[l]? = some v
  | .node n => L[n]? = some v
theorem child_val {g : Nat → α} {d0 : α} {j nl : Nat} {c : Ch} (h : inR j W.length 0 nl c) (hL : Filled f W j L) (hE : ∀ l, l < nl → E[l]? = some (f (g l))) : valC E L (f (atC g (fun m => W.getD m d0) c)) c := by
  cases c with
  | leaf l => exact hE l h.2
  | node n =>
    have hn : n < W.length := h.2
    have := hL.2 n W[n] h.1 (List.getElem?_eq_getElem hn)
    simp only [valC, atC]
    rw [this]
    rw [List.getD_eq_getElem?_getD, List.getElem?_eq_getElem hn]; rfl
end
theorem flat_ints {vs : List Int} : (vs.map D.int).all flatD = true := by
  rw [List.all_eq_true]
  intro d h
  obtain ⟨v, _, rfl⟩ := List.mem_map.mp h
  rfl
theorem any_ints {vs : List Int} {x : Int} : ((vs.map D.int).any fun d => eqb d (.int x)) = decide (x ∈ vs) := by
  induction vs with
  | nil => rfl
  | cons v vs ih =>
    rw [List.map_cons, List.any_cons, ih]
    simp only [eqb, List.mem_cons]
    by_cases c : v = x
    · subst c; simp
    · have : ¬ x = v := fun z => c z.symm
      simp [c, this]
theorem any_none {vs : List Int} : ((vs.map D.int).any fun d => eqb d .non) = false := by
  induction vs with
  | nil => rfl
  | cons v vs ih => rw [List.map_cons, List.any_cons, ih]; rfl
theorem inG_ints {vs : List Int} {x : Int} {n : Bool} {p : Addr} {M : Mp} {Q : DK} (h : M p = some (.lst (vs.map D.int))) : inG n (.int x) (.ref p) M Q = Q (.bl (n != decide (x ∈ vs))) M := by
  unfold inG
  simp only [seqD, seqOf, h, flat_ints, any_ints, flatD, true_and]
theorem inG_intsN {vs : List Int} {n : Bool} {p : Addr} {M : Mp} {Q : DK} (h : M p = some (.lst (vs.map D.int))) : inG n .non (.ref p) M Q = Q (.bl (n != false)) M := by
  unfold inG
  simp only [seqD, seqOf, h, flat_ints, any_none, flatD, true_and]
theorem lv_at {es : List Int} {l : Nat} (h : l < es.length) : (es.map D.int)[l]? = some (.int (lv es l)) := by
  unfold lv
  rw [List.getElem?_map, List.getD_eq_getElem?_getD, List.getElem?_eq_getElem h]; rfl
theorem wins_len {es : List Int} {t : Tr} : (wins es t).length = t.nn := vals_len _ _ t 0 0
theorem wins_at {es : List Int} {t : Tr} {j : Nat} {s : Int} {ks : List Ch} (h1 : t.sides[j]? = some s) (h2 : (t.kids 0 0)[j]? = some ks) : (wins es t)[j]? = some (wrule j s (ks.map (atC (lv es) fun m => (wins es t).getD m 0))) := by
  have := node_val wrule (lv es) (W := fun m => (wins es t).getD m 0) t 0 0 (fun j x h => by
    show (wins es t).getD (0 + j) 0 = x
    rw [Nat.zero_add, List.getD_eq_getElem?_getD]
    rw [show wins es t = valsT wrule (lv es) t 0 0 from rfl, h]; rfl) j s ks h1 h2
  rw [Nat.zero_add] at this
  exact this
theorem root_win {es : List Int} {t : Tr} : atC (lv es) (fun m => (wins es t).getD m 0) (t.root 0 0) = win es t :=
  root_val wrule (lv es) t 0 0 fun j x h => by
    show (wins es t).getD (0 + j) 0 = x
    rw [Nat.zero_add, List.getD_eq_getElem?_getD]
    rw [show wins es t = valsT wrule (lv es) t 0 0 from rfl, h]; rfl
/-- the node at a place -/
theorem node_at {t : Tr} {j : Nat} (h : j < t.nn) : ∃ s ks, t.sides[j]? = some s ∧ (t.kids 0 0)[j]? = some ks ∧ ∀ c, c ∈ ks → inR (j + 1) t.nn 0 t.nl c := by
  have h1 : j < t.sides.length := h
  have h2 : j < (t.kids 0 0).length := by rw [kids_len]; exact h
  refine ⟨t.sides[j], (t.kids 0 0)[j], List.getElem?_eq_getElem h1, List.getElem?_eq_getElem h2, fun c hc => ?_⟩
  have := kids_in t 0 0 j _ (List.getElem?_eq_getElem h2) c hc
  simpa using this
mutual
theorem kids_small : ∀ (t : Tr) (n l : Nat), t.wf → ∀ ks, ks ∈ t.kids n l → 1 ≤ ks.length ∧ ks.length ≤ 12
  | .lf _, n, l, _, ks, h => by simp [Tr.kids] at h
  | .nd s ts, n, l, w, ks, h => by
    rw [Tr.wf] at w
    rw [Tr.kids, List.mem_cons] at h
    rcases h with rfl | h
    · rw [roots_len]; exact ⟨w.2.1, w.2.2.1⟩
    · exact kidsL_small ts _ _ w.2.2.2 ks h
theorem kidsL_small : ∀ (ts : List Tr) (n l : Nat), wfL ts → ∀ ks, ks ∈ kidsL ts n l → 1 ≤ ks.length ∧ ks.length ≤ 12
  | [], n, l, _, ks, h => by simp [kidsL] at h
  | t :: ts, n, l, w, ks, h => by
    rw [wfL] at w
    rw [kidsL, List.mem_append] at h
    rcases h with h | h
    · exact kids_small t _ _ w.1 ks h
    · exact kidsL_small ts _ _ w.2 ks h
end
end DU

set_option maxHeartbeats 4000000
namespace DU
open PySem PySem.Spec L2 DL
/-! ### values of trees, in general -/
section
variable {α β : Type}
def noN (f : Nat → Int → List α → α) : Prop := ∀ n m s vs, f n s vs = f m s vs
mutual
theorem evalT_cg {f : Nat → Int → List α → α} {g g' : Nat → α} : ∀ (t : Tr) (n l : Nat), (∀ i, l ≤ i → i < l + t.nl → g i = g' i) → evalT f g t n l = evalT f g' t n l
  | .lf _, n, l, h => by rw [evalT, evalT]; exact h l (by omega) (by rw [nl_lf]; omega)
  | .nd s ts, n, l, h => by rw [evalT, evalT, evalL_cg ts (n + 1) l fun i a b => h i a (by rw [nl_nd]; exact b)]
theorem evalL_cg {f : Nat → Int → List α → α} {g g' : Nat → α} : ∀ (ts : List Tr) (n l : Nat), (∀ i, l ≤ i → i < l + nlL ts → g i = g' i) → evalL f g ts n l = evalL f g' ts n l
  | [], n, l, h => by rw [evalL, evalL]
  | t :: ts, n, l, h => by
    rw [nlL_cons] at h
    rw [evalL, evalL, evalT_cg t n l fun i a b => h i a (by omega), evalL_cg ts _ _ fun i a b => h i (by omega) (by omega)]
end
mutual
theorem evalT_n {f : Nat → Int → List α → α} (hf : noN f) {g : Nat → α} : ∀ (t : Tr) (n m l : Nat), evalT f g t n l = evalT f g t m l
  | .lf _, n, m, l => by rw [evalT, evalT]
  | .nd s ts, n, m, l => by rw [evalT, evalT, evalL_n hf ts (n + 1) (m + 1) l]; exact hf _ _ _ _
theorem evalL_n {f : Nat → Int → List α → α} (hf : noN f) {g : Nat → α} : ∀ (ts : List Tr) (n m l : Nat), evalL f g ts n l = evalL f g ts m l
  | [], n, m, l => by rw [evalL, evalL]
  | t :: ts, n, m, l => by rw [evalL, evalL, evalT_n hf t n m l, evalL_n hf ts (n + t.nn) (m + t.nn) _]
end
mutual
theorem evalT_hom {f : Nat → Int → List α → α} {f' : Nat → Int → List β → β} {g : Nat → α} (φ : α → β) (h : ∀ n s vs, φ (f n s vs) = f' n s (vs.map φ)) : ∀ (t : Tr) (n l : Nat), evalT f' (fun i => φ (g i)) t n l = φ (evalT f g t n l)
  | .lf _, n, l => by rw [evalT, evalT]
  | .nd s ts, n, l => by rw [evalT, evalT, evalL_hom φ h ts, h]
theorem evalL_hom {f : Nat → Int → List α → α} {f' : Nat → Int → List β → β} {g : Nat → α} (φ : α → β) (h : ∀ n s vs, φ (f n s vs) = f' n s (vs.map φ)) : ∀ (ts : List Tr) (n l : Nat), evalL f' (fun i => φ (g i)) ts n l = (evalL f g ts n l).map φ
  | [], n, l => by rw [evalL, evalL]; rfl
  | t :: ts, n, l => by rw [evalL, evalL, evalT_hom φ h t, evalL_hom φ h ts, List.map_cons]
end
mutual
theorem evalT_homS {f : Nat → Int → List α → α} {f' : Nat → Int → List β → β} {g : Nat → α} (φ : α → β) (h : ∀ n s vs, φ (f n s vs) = f' n (1 - s) (vs.map φ)) : ∀ (t : Tr) (n l : Nat), evalT f' (fun i => φ (g i)) t.sw n l = φ (evalT f g t n l)
  | .lf _, n, l => by rw [Tr.sw, evalT, evalT]
  | .nd s ts, n, l => by rw [Tr.sw, evalT, evalT, evalL_homS φ h ts, h]
theorem evalL_homS {f : Nat → Int → List α → α} {f' : Nat → Int → List β → β} {g : Nat → α} (φ : α → β) (h : ∀ n s vs, φ (f n s vs) = f' n (1 - s) (vs.map φ)) : ∀ (ts : List Tr) (n l : Nat), evalL f' (fun i => φ (g i)) (swL ts) n l = (evalL f g ts n l).map φ
  | [], n, l => by rw [swL, evalL, evalL]; rfl
  | t :: ts, n, l => by rw [swL, evalL, evalL, sw_nn, sw_nl, evalT_homS φ h t, evalL_homS φ h ts, List.map_cons]
end
mutual
def evalO (f : Nat → Int → List α → α) (g : Nat → Int → α) : Tr → Nat → α
  | .lf o, l => g l o
  | .nd s ts, l => f 0 s (evalOL f g ts l)
def evalOL (f : Nat → Int → List α → α) (g : Nat → Int → α) : List Tr → Nat → List α
  | [], _ => []
  | t :: ts, l => evalO f g t l :: evalOL f g ts (l + t.nl)
end
theorem lv_app_l {xs ys : List Int} {i : Nat} (h : i < xs.length) : lv (xs ++ ys) i = lv xs i := by
  unfold lv
  rw [List.getD_eq_getElem?_getD, List.getD_eq_getElem?_getD, List.getElem?_append_left h]
theorem lv_app_r {xs ys : List Int} {i : Nat} : lv (xs ++ ys) (xs.length + i) = lv ys i := by
  unfold lv
  rw [List.getD_eq_getElem?_getD, List.getD_eq_getElem?_getD, List.getElem?_append_right (by omega), Nat.add_sub_cancel_left]
mutual
theorem evalO_T {f : Nat → Int → List α → α} (hf : noN f) {g : Nat → Int → α} {es : List Int} : ∀ (t : Tr) (n l : Nat), (∀ i, i < t.nl → lv es (l + i) = lv t.ends i) → evalT f (fun l => g l (lv es l)) t n l = evalO f g t l
  | .lf o, n, l, h => by
    have := h 0 (by rw [nl_lf]; omega)
    rw [evalT, evalO]
    simp only [Nat.add_zero] at this
    rw [this]; simp [Tr.ends, lv]
  | .nd s ts, n, l, h => by
    rw [evalT, evalO, evalOL_T hf ts (n + 1) l fun i hi => by
      have := h i (by rw [nl_nd]; exact hi)
      simpa [Tr.ends] using this]
    exact hf _ _ _ _
theorem evalOL_T {f : Nat → Int → List α → α} (hf : noN f) {g : Nat → Int → α} {es : List Int} : ∀ (ts : List Tr) (n l : Nat), (∀ i, i < nlL ts → lv es (l + i) = lv (endsL ts) i) → evalL f (fun l => g l (lv es l)) ts n l = evalOL f g ts l
  | [], n, l, h => by rw [evalL, evalOL]
  | t :: ts, n, l, h => by
    rw [nlL_cons] at h
    rw [evalL, evalOL, evalO_T hf t n l fun i hi => by
      rw [h i (by omega), endsL, lv_app_l hi], evalOL_T hf ts _ _ fun i hi => by
      have := h (t.nl + i) (by omega)
      rw [endsL, show t.nl = t.ends.length from rfl, lv_app_r] at this
      rw [← this, Nat.add_assoc]; rfl]
end
theorem evalO_T0 {f : Nat → Int → List α → α} (hf : noN f) {g : Nat → Int → α} {t : Tr} {n : Nat} : evalT f (fun l => g l (lv t.ends l)) t n 0 = evalO f g t 0 :=
  evalO_T hf t n 0 fun i _ => by rw [Nat.zero_add]
mutual
theorem evalO_congr {f : Nat → Int → List α → α} {g g' : Nat → Int → α} : ∀ (t : Tr) (l k : Nat), (∀ i o, i < t.nl → g (l + i) o = g' (k + i) o) → evalO f g t l = evalO f g' t k
  | .lf o, l, k, h => by rw [evalO, evalO]; exact h 0 o (by rw [nl_lf]; omega)
  | .nd s ts, l, k, h => by rw [evalO, evalO, evalOL_congr ts l k fun i o b => h i o (by rw [nl_nd]; exact b)]
theorem evalOL_congr {f : Nat → Int → List α → α} {g g' : Nat → Int → α} : ∀ (ts : List Tr) (l k : Nat), (∀ i o, i < nlL ts → g (l + i) o = g' (k + i) o) → evalOL f g ts l = evalOL f g' ts k
  | [], l, k, h => by rw [evalOL, evalOL]
  | t :: ts, l, k, h => by
    rw [nlL_cons] at h
    rw [evalOL, evalOL, evalO_congr t l k fun i o b => h i o (by omega), evalOL_congr ts (l + t.nl) (k + t.nl) fun i o b => by
      have := h (t.nl + i) o (by omega)
      rw [Nat.add_assoc, Nat.add_assoc]; exact this]
end
mutual
theorem evalO_hom {f : Nat → Int → List α → α} {f' : Nat → Int → List β → β} {g : Nat → Int → α} (φ : α → β) (h : ∀ n s vs, φ (f n s vs) = f' n s (vs.map φ)) : ∀ (t : Tr) (l : Nat), evalO f' (fun i o => φ (g i o)) t l = φ (evalO f g t l)
  | .lf _, l => by rw [evalO, evalO]
  | .nd s ts, l => by rw [evalO, evalO, evalOL_hom φ h ts, h]
theorem evalOL_hom {f : Nat → Int → List α → α} {f' : Nat → Int → List β → β} {g : Nat → Int → α} (φ : α → β) (h : ∀ n s vs, φ (f n s vs) = f' n s (vs.map φ)) : ∀ (ts : List Tr) (l : Nat), evalOL f' (fun i o => φ (g i o)) ts l = (evalOL f g ts l).map φ
  | [], l => by rw [evalOL, evalOL]; rfl
  | t :: ts, l => by rw [evalOL, evalOL, evalO_hom φ h t, evalOL_hom φ h ts, List.map_cons]
end
/-! ### trees in the place of leaves -/
mutual
def Tr.gr (P : Nat → Tr) : Tr → Nat → Tr
  | .lf _, k => P k
  | .nd s ts, k => .nd s (grL P ts k)
def grL (P : Nat → Tr) : List Tr → Nat → List Tr
  | [], _ => []
  | t :: ts, k => t.gr P k :: grL P ts (k + t.nl)
end
section
variable {P : Nat → Tr} {S : Nat → Nat}
theorem grL_len : ∀ {ts : List Tr} {k : Nat}, (grL P ts k).length = ts.length
  | [], k => by simp [grL]
  | t :: ts, k => by simp [grL, grL_len (ts := ts)]
mutual
theorem gr_nl (hS : ∀ k, S (k + 1) = S k + (P k).nl) : ∀ (t : Tr) (k : Nat), S k + (t.gr P k).nl = S (k + t.nl)
  | .lf _, k => by rw [Tr.gr, nl_lf, hS]
  | .nd s ts, k => by rw [Tr.gr, nl_nd, nl_nd, grL_nl hS ts]
theorem grL_nl (hS : ∀ k, S (k + 1) = S k + (P k).nl) : ∀ (ts : List Tr) (k : Nat), S k + nlL (grL P ts k) = S (k + nlL ts)
  | [], k => by rw [grL, nlL_nil]; rfl
  | t :: ts, k => by
    have h1 := gr_nl hS t k
    have h2 := grL_nl hS ts (k + t.nl)
    rw [grL, nlL_cons, nlL_cons, ← Nat.add_assoc, h1, h2, Nat.add_assoc]
end
mutual
theorem gr_eval {f : Nat → Int → List α → α} (hf : noN f) {g : Nat → Int → α} (hS : ∀ k, S (k + 1) = S k + (P k).nl) : ∀ (t : Tr) (k n : Nat), evalO f g (t.gr P k) (S k) = evalT f (fun j => evalO f g (P j) (S j)) t n k
  | .lf _, k, n => by rw [Tr.gr, evalT]
  | .nd s ts, k, n => by rw [Tr.gr, evalO, evalT, grL_eval hf hS ts k (n + 1)]; exact hf _ _ _ _
theorem grL_eval {f : Nat → Int → List α → α} (hf : noN f) {g : Nat → Int → α} (hS : ∀ k, S (k + 1) = S k + (P k).nl) : ∀ (ts : List Tr) (k n : Nat), evalOL f g (grL P ts k) (S k) = evalL f (fun j => evalO f g (P j) (S j)) ts n k
  | [], k, n => by rw [grL, evalL, evalOL]
  | t :: ts, k, n => by rw [grL, evalL, evalOL, gr_eval hf hS t k n, gr_nl hS, grL_eval hf hS ts _ (n + t.nn)]
end
mutual
theorem gr_wf : ∀ (t : Tr) (k : Nat), (∀ j, k ≤ j → j < k + t.nl → (P j).wf) → t.wf → (t.gr P k).wf
  | .lf _, k, h, _ => by rw [Tr.gr]; exact h k (by omega) (by rw [nl_lf]; omega)
  | .nd s ts, k, h, w => by
    rw [Tr.gr]
    simp only [Tr.wf] at w ⊢
    exact ⟨w.1, by rw [grL_len]; exact w.2.1, by rw [grL_len]; exact w.2.2.1, grL_wf ts k (fun j a b => h j a (by rw [nl_nd]; exact b)) w.2.2.2⟩
theorem grL_wf : ∀ (ts : List Tr) (k : Nat), (∀ j, k ≤ j → j < k + nlL ts → (P j).wf) → wfL ts → wfL (grL P ts k)
  | [], k, h, _ => by simp [grL, wfL]
  | t :: ts, k, h, w => by
    rw [nlL_cons] at h
    rw [grL]
    simp only [wfL] at w ⊢
    exact ⟨gr_wf t k (fun j a b => h j a (by omega)) w.1, grL_wf ts _ (fun j a b => h j (by omega) (by omega)) w.2⟩
end
mutual
theorem gr_ht {m : Nat} : ∀ (t : Tr) (k : Nat), (∀ j, k ≤ j → j < k + t.nl → (P j).ht ≤ m) → (t.gr P k).ht ≤ t.ht + m
  | .lf _, k, h => by rw [Tr.gr, Tr.ht, Nat.zero_add]; exact h k (by omega) (by rw [nl_lf]; omega)
  | .nd s ts, k, h => by
    have := grL_ht ts k fun j a b => h j a (by rw [nl_nd]; exact b)
    rw [Tr.gr, Tr.ht, Tr.ht]; omega
theorem grL_ht {m : Nat} : ∀ (ts : List Tr) (k : Nat), (∀ j, k ≤ j → j < k + nlL ts → (P j).ht ≤ m) → htL (grL P ts k) ≤ htL ts + m
  | [], k, h => by simp [grL, htL]
  | t :: ts, k, h => by
    rw [nlL_cons] at h
    have h1 := gr_ht t k fun j a b => h j a (by omega)
    have h2 := grL_ht ts (k + t.nl) fun j a b => h j (by omega) (by omega)
    rw [grL, htL, htL]; omega
end
mutual
theorem gr_nn {m : Nat} : ∀ (t : Tr) (k : Nat), (∀ j, k ≤ j → j < k + t.nl → (P j).nn ≤ m) → (t.gr P k).nn ≤ t.nn + t.nl * m
  | .lf _, k, h => by
    have := h k (by omega) (by rw [nl_lf]; omega)
    rw [Tr.gr, nn_lf, nl_lf]; omega
  | .nd s ts, k, h => by
    have := grL_nn ts k fun j a b => h j a (by rw [nl_nd]; exact b)
    rw [Tr.gr, nn_nd, nn_nd, nl_nd]; omega
theorem grL_nn {m : Nat} : ∀ (ts : List Tr) (k : Nat), (∀ j, k ≤ j → j < k + nlL ts → (P j).nn ≤ m) → nnL (grL P ts k) ≤ nnL ts + nlL ts * m
  | [], k, h => by simp [grL, nnL_nil]
  | t :: ts, k, h => by
    rw [nlL_cons] at h
    have h1 := gr_nn t k fun j a b => h j a (by omega)
    have h2 := grL_nn ts (k + t.nl) fun j a b => h j (by omega) (by omega)
    rw [grL, nnL_cons, nnL_cons, nlL_cons, Nat.add_mul]; omega
end
end
end
/-! ### winners where outcomes are open -/
def w3 (_ : Nat) (s : Int) (vs : List (Option Int)) : Option Int := if some s ∈ vs then some s else if none ∈ vs then none else some (1 - s)
theorem noN_w3 : noN w3 := fun _ _ _ _ => rfl
theorem noN_wrule : noN wrule := fun _ _ _ _ => rfl
/-- the open value beside the least and the greatest -/
def Tri (v : Option Int) (a b : Int) : Prop := (v = some 0 ∧ a = 0 ∧ b = 0) ∨ (v = some 1 ∧ a = 1 ∧ b = 1) ∨ (v = none ∧ a = 0 ∧ b = 1)
inductive Tri3 : List (Option Int) → List Int → List Int → Prop
  | nil : Tri3 [] [] []
  | cons {v : Option Int} {a b : Int} {vs : List (Option Int)} {as bs : List Int} : Tri v a b → Tri3 vs as bs → Tri3 (v :: vs) (a :: as) (b :: bs)
theorem Tri3.facts : ∀ {vs : List (Option Int)} {as bs : List Int}, Tri3 vs as bs → (0 ∈ bs ↔ some 0 ∈ vs) ∧ (1 ∈ as ↔ some 1 ∈ vs) ∧ (0 ∈ as ↔ some 0 ∈ vs ∨ none ∈ vs) ∧ (1 ∈ bs ↔ some 1 ∈ vs ∨ none ∈ vs)
  | _, _, _, .nil => by simp
  | _, _, _, .cons h r => by
    obtain ⟨a1, a2, a3, a4⟩ := r.facts
    rcases h with ⟨rfl, rfl, rfl⟩ | ⟨rfl, rfl, rfl⟩ | ⟨rfl, rfl, rfl⟩ <;> simp [a1, a2, a3, a4]
theorem tri_node {n : Nat} {s : Int} {vs : List (Option Int)} {as bs : List Int} (hs : bit s) (h : Tri3 vs as bs) : Tri (w3 n s vs) (wrule n s as) (wrule n s bs) := by
  obtain ⟨a1, a2, a3, a4⟩ := h.facts
  unfold w3 wrule Tri
  rcases hs with rfl | rfl
  · by_cases c : some (0 : Int) ∈ vs
    · simp [a1, a3, c]
    · by_cases c2 : (none : Option Int) ∈ vs
      · simp [a1, a3, c, c2]
      · simp [a1, a3, c, c2]
  · by_cases c : some (1 : Int) ∈ vs
    · simp [a2, a4, c]
    · by_cases c2 : (none : Option Int) ∈ vs
      · simp [a2, a4, c, c2]
      · simp [a2, a4, c, c2]
mutual
theorem tri_T {g : Nat → Option Int} {ga gb : Nat → Int} (hg : ∀ l, Tri (g l) (ga l) (gb l)) : ∀ (t : Tr) (n l : Nat), t.wf → Tri (evalT w3 g t n l) (evalT wrule ga t n l) (evalT wrule gb t n l)
  | .lf _, n, l, _ => by rw [evalT, evalT, evalT]; exact hg l
  | .nd s ts, n, l, w => by
    simp only [Tr.wf] at w
    rw [evalT, evalT, evalT]
    exact tri_node w.1 (tri_L hg ts _ _ w.2.2.2)
theorem tri_L {g : Nat → Option Int} {ga gb : Nat → Int} (hg : ∀ l, Tri (g l) (ga l) (gb l)) : ∀ (ts : List Tr) (n l : Nat), wfL ts → Tri3 (evalL w3 g ts n l) (evalL wrule ga ts n l) (evalL wrule gb ts n l)
  | [], n, l, _ => by rw [evalL, evalL, evalL]; exact .nil
  | t :: ts, n, l, w => by
    simp only [wfL] at w
    rw [evalL, evalL, evalL]
    exact .cons (tri_T hg t _ _ w.1) (tri_L hg ts _ _ w.2)
end
def bitO (v : Option Int) : Prop := ∀ o, v = some o → bit o
theorem tri_fill {v : Option Int} (h : bitO v) : Tri v (v.getD 0) (v.getD 1) := by
  cases v with
  | none => exact .inr (.inr ⟨rfl, rfl, rfl⟩)
  | some o =>
    rcases h o rfl with rfl | rfl
    · exact .inl ⟨rfl, rfl, rfl⟩
    · exact .inr (.inl ⟨rfl, rfl, rfl⟩)
/-- what two fillings tell -/
theorem w3_two {g : Nat → Option Int} (hg : ∀ l, bitO (g l)) {t : Tr} {n l : Nat} (w : t.wf) : evalT w3 g t n l = if evalT wrule (fun i => (g i).getD 0) t n l = evalT wrule (fun i => (g i).getD 1) t n l then some (evalT wrule (fun i => (g i).getD 0) t n l) else none := by
  rcases tri_T (fun l => tri_fill (hg l)) t n l w with ⟨e, a, b⟩ | ⟨e, a, b⟩ | ⟨e, a, b⟩ <;> rw [e, a, b] <;> simp
/-- an answer that is there holds for every filling -/
theorem wrule_of_w3 {n : Nat} {s o : Int} {vs : List (Option Int)} {as : List Int} (hl : vs.length = as.length) (h : ∀ (i : Nat) (v a : Int), vs[i]? = some (some v) → as[i]? = some a → a = v) (hs : bit s) (hb : ∀ v, some v ∈ vs → bit v) (e : w3 n s vs = some o) : wrule n s as = o := by
  unfold w3 at e
  unfold wrule
  split at e
  · rename_i c
    cases e
    obtain ⟨i, hi, ei⟩ := List.getElem_of_mem c
    have : as[i]'(by omega) = s := h i s _ (by rw [List.getElem?_eq_getElem hi, ei]) (List.getElem?_eq_getElem _)
    rw [if_pos (by rw [← this]; exact List.getElem_mem _)]
  · rename_i c
    split at e
    · cases e
    · rename_i c2
      cases e
      rw [if_neg]
      intro m
      obtain ⟨i, hi, ei⟩ := List.getElem_of_mem m
      have hv := List.getElem?_eq_getElem (show i < vs.length by omega)
      cases q : vs[i]'(by omega) with
      | none => exact c2 (by rw [← q]; exact List.getElem_mem _)
      | some v =>
        have := h i v s (by rw [hv, q]) (by rw [List.getElem?_eq_getElem hi, ei])
        subst this
        exact c (by rw [← q]; exact List.getElem_mem _)
theorem evalL_ln {α : Type} {f : Nat → Int → List α → α} {g : Nat → α} : ∀ {ts : List Tr} {n l : Nat}, (evalL f g ts n l).length = ts.length
  | [], n, l => by simp [evalL]
  | t :: ts, n, l => by simp [evalL, evalL_ln (ts := ts)]
theorem w3_bit {n : Nat} {s : Int} {vs : List (Option Int)} (hs : bit s) : bitO (w3 n s vs) := by
  intro o e
  unfold w3 at e
  split at e
  · cases e; exact hs
  · split at e
    · cases e
    · cases e; exact bit_flip hs
mutual
theorem w3_bitT {g : Nat → Option Int} (hg : ∀ l, bitO (g l)) : ∀ (t : Tr) (n l : Nat), t.wf → bitO (evalT w3 g t n l)
  | .lf _, n, l, _ => by rw [evalT]; exact hg l
  | .nd s ts, n, l, w => by
    simp only [Tr.wf] at w
    rw [evalT]; exact w3_bit w.1
theorem w3_bitL {g : Nat → Option Int} (hg : ∀ l, bitO (g l)) : ∀ (ts : List Tr) (n l : Nat), wfL ts → ∀ v, v ∈ evalL w3 g ts n l → bitO v
  | [], n, l, _, v, hv => by simp [evalL] at hv
  | t :: ts, n, l, w, v, hv => by
    simp only [wfL] at w
    rw [evalL] at hv
    rcases List.mem_cons.mp hv with rfl | hv
    · exact w3_bitT hg t _ _ w.1
    · exact w3_bitL hg ts _ _ w.2 v hv
end
mutual
theorem w3_holds {g : Nat → Option Int} {h : Nat → Int} (hg : ∀ l, bitO (g l)) (hh : ∀ l v, g l = some v → h l = v) : ∀ (t : Tr) (n l : Nat), t.wf → ∀ o, evalT w3 g t n l = some o → evalT wrule h t n l = o
  | .lf _, n, l, _, o, e => by rw [evalT] at e ⊢; exact hh l o e
  | .nd s ts, n, l, w, o, e => by
    simp only [Tr.wf] at w
    rw [evalT] at e ⊢
    refine wrule_of_w3 (by rw [evalL_ln, evalL_ln]) (w3_holdsL hg hh ts _ _ w.2.2.2) w.1 (fun v hv => w3_bitL hg ts _ _ w.2.2.2 _ hv v rfl) e
theorem w3_holdsL {g : Nat → Option Int} {h : Nat → Int} (hg : ∀ l, bitO (g l)) (hh : ∀ l v, g l = some v → h l = v) : ∀ (ts : List Tr) (n l : Nat), wfL ts → ∀ (i : Nat) (v a : Int), (evalL w3 g ts n l)[i]? = some (some v) → (evalL wrule h ts n l)[i]? = some a → a = v
  | [], n, l, _, i, v, a, e, _ => by simp [evalL] at e
  | t :: ts, n, l, w, i, v, a, e, e2 => by
    simp only [wfL] at w
    rw [evalL] at e e2
    cases i with
    | zero =>
      simp only [List.getElem?_cons_zero, Option.some.injEq] at e e2
      rw [← e2]; exact w3_holds hg hh t _ _ w.1 v e
    | succ i =>
      simp only [List.getElem?_cons_succ] at e e2
      exact w3_holdsL hg hh ts _ _ w.2 i v a e e2
end
theorem w3_sw {n : Nat} {s : Int} {vs : List (Option Int)} : (w3 n s vs).map (1 - ·) = w3 n (1 - s) (vs.map (Option.map (1 - ·))) := by
  have e1 : (some (1 - s) ∈ vs.map (Option.map (1 - ·))) ↔ some s ∈ vs := by
    constructor
    · intro h
      obtain ⟨v, hv, e⟩ := List.mem_map.mp h
      cases v with
      | none => cases e
      | some v =>
        have : v = s := by simp only [Option.map_some, Option.some.injEq] at e; omega
        rw [← this]; exact hv
    · intro h; exact List.mem_map.mpr ⟨_, h, rfl⟩
  have e2 : (none ∈ vs.map (Option.map (fun x : Int => 1 - x))) ↔ none ∈ vs := by
    constructor
    · intro h
      obtain ⟨v, hv, e⟩ := List.mem_map.mp h
      cases v with
      | none => exact hv
      | some v => cases e
    · intro h; exact List.mem_map.mpr ⟨_, h, rfl⟩
  unfold w3
  by_cases c : some s ∈ vs
  · rw [if_pos c, if_pos (e1.mpr c)]; rfl
  · rw [if_neg c, if_neg (mt e1.mp c)]
    by_cases c2 : none ∈ vs
    · rw [if_pos c2, if_pos (e2.mpr c2)]; rfl
    · rw [if_neg c2, if_neg (mt e2.mp c2)]; simp
theorem w3_all {n : Nat} {s : Int} {vs : List Int} : w3 n s (vs.map some) = some (wrule n s vs) := by
  unfold w3 wrule
  have e1 : some s ∈ vs.map some ↔ s ∈ vs := by simp
  have e2 : ¬ (none ∈ vs.map some) := by simp
  by_cases c : s ∈ vs
  · rw [if_pos c, if_pos (e1.mpr c)]
  · rw [if_neg c, if_neg (mt e1.mp c), if_neg e2]
end DU

set_option maxHeartbeats 4000000
namespace DU
open PySem PySem.Spec L2 DL
/-! ### certificates -/
abbrev Ct := Int × List Nat
def bestL : Option (List Nat) → List (List Nat) → Option (List Nat)
  | acc, [] => acc
  | acc, p :: ps => bestL (if (∀ c, acc = some c → p.length < c.length) then some p else acc) ps
def lotsOf (s : Int) (vs : List Ct) : List (List Nat) := (vs.filter fun p => decide (p.1 = s)).map (·.2)
def best (s : Int) (acc : Option (List Nat)) (vs : List Ct) : Option (List Nat) := bestL acc (lotsOf s vs)
instance {acc : Option (List Nat)} {n : Nat} : Decidable (∀ c, acc = some c → n < c.length) := match acc with
  | none => isTrue fun _ h => by cases h
  | some c => if h : n < c.length then isTrue fun d e => by cases e; exact h else isFalse fun k => h (k c rfl)
theorem lotsOf_cons {s : Int} {p : Ct} {vs : List Ct} : lotsOf s (p :: vs) = if p.1 = s then p.2 :: lotsOf s vs else lotsOf s vs := by
  unfold lotsOf
  rw [List.filter_cons]
  by_cases c : p.1 = s <;> simp [c]
theorem bestL_keep {c : List Nat} : ∀ {ps : List (List Nat)}, (∀ y, y ∈ ps → c.length ≤ y.length) → bestL (some c) ps = some c
  | [], _ => rfl
  | p :: ps, h => by
    have h1 := h p (by simp)
    unfold bestL
    rw [if_neg (by intro k; have := k c rfl; omega)]
    exact bestL_keep fun y hy => h y (List.mem_cons_of_mem _ hy)
theorem bestL_first {c : List Nat} : ∀ {ps : List (List Nat)} {acc : Option (List Nat)} {i : Nat}, ps[i]? = some c → (∀ (j : Nat) (y : List Nat), ps[j]? = some y → c.length ≤ y.length) → (∀ (j : Nat) (y : List Nat), j < i → ps[j]? = some y → c.length < y.length) → (∀ a : List Nat, acc = some a → c.length < a.length) → bestL acc ps = some c
  | [], acc, i, h, _, _, _ => by simp at h
  | p :: ps, acc, 0, h, h1, h2, h3 => by
    simp only [List.getElem?_cons_zero, Option.some.injEq] at h
    subst h
    unfold bestL
    rw [if_pos h3]
    exact bestL_keep fun y hy => by
      obtain ⟨j, hj, rfl⟩ := List.getElem_of_mem hy
      exact h1 (j + 1) _ (by simp [List.getElem?_eq_getElem hj])
  | p :: ps, acc, i + 1, h, h1, h2, h3 => by
    simp only [List.getElem?_cons_succ] at h
    unfold bestL
    refine bestL_first (i := i) h (fun j y hy => h1 (j + 1) y (by simpa using hy)) (fun j y hj hy => h2 (j + 1) y (by omega) (by simpa using hy)) fun a ha => ?_
    split at ha
    · cases ha; exact h2 0 p (by omega) (by simp)
    · exact h3 a ha
theorem bestL_some : ∀ {ps : List (List Nat)} {a : List Nat}, ∃ c, bestL (some a) ps = some c ∧ (c = a ∨ c ∈ ps)
  | [], a => ⟨a, rfl, .inl rfl⟩
  | p :: ps, a => by
    unfold bestL
    split
    · obtain ⟨c, e, h⟩ := bestL_some (ps := ps) (a := p)
      exact ⟨c, e, .inr (by rcases h with rfl | h <;> simp_all)⟩
    · obtain ⟨c, e, h⟩ := bestL_some (ps := ps) (a := a)
      exact ⟨c, e, by rcases h with rfl | h <;> simp_all⟩
theorem bestL_cases {ps : List (List Nat)} : (ps = [] ∧ bestL none ps = none) ∨ ∃ c, c ∈ ps ∧ bestL none ps = some c := by
  cases ps with
  | nil => exact .inl ⟨rfl, rfl⟩
  | cons p ps =>
    right
    unfold bestL
    rw [if_pos (by intro c h; cases h)]
    obtain ⟨c, e, h⟩ := bestL_some (ps := ps) (a := p)
    exact ⟨c, by rcases h with rfl | h <;> simp_all, e⟩
theorem lotsOf_mem {s : Int} {vs : List Ct} {c : List Nat} : c ∈ lotsOf s vs ↔ (s, c) ∈ vs := by
  unfold lotsOf
  constructor
  · intro h
    obtain ⟨p, hp, rfl⟩ := List.mem_map.mp h
    obtain ⟨h1, h2⟩ := List.mem_filter.mp hp
    have : p.1 = s := by simpa using h2
    rw [← this]; exact h1
  · intro h
    exact List.mem_map.mpr ⟨(s, c), List.mem_filter.mpr ⟨h, by simp⟩, rfl⟩
theorem lotsOf_nil {s : Int} {vs : List Ct} : lotsOf s vs = [] ↔ ∀ p, p ∈ vs → p.1 ≠ s := by
  constructor
  · rintro h ⟨w, c⟩ hp rfl
    have : c ∈ lotsOf w vs := lotsOf_mem.mpr hp
    rw [h] at this; cases this
  · intro h
    rw [List.eq_nil_iff_forall_not_mem]
    intro c hc
    exact h _ (lotsOf_mem.mp hc) rfl
def frule (_ : Nat) (s : Int) (vs : List Ct) : Ct := match best s none vs with
  | some c => (s, c)
  | none => (1 - s, (vs.map (·.2)).flatten)
theorem noN_frule : noN frule := fun _ _ _ _ => rfl
/-- either some child has the side, and its lot is taken, or all lots are joined -/
theorem frule_cases (n : Nat) (s : Int) (vs : List Ct) : (∃ c, (s, c) ∈ vs ∧ frule n s vs = (s, c) ∧ best s none vs = some c) ∨ ((∀ p, p ∈ vs → p.1 ≠ s) ∧ frule n s vs = (1 - s, (vs.map (·.2)).flatten) ∧ best s none vs = none) := by
  unfold frule best
  rcases bestL_cases (ps := lotsOf s vs) with ⟨e, h⟩ | ⟨c, hc, h⟩
  · rw [h]; exact .inr ⟨lotsOf_nil.mp e, rfl, rfl⟩
  · rw [h]; exact .inl ⟨c, lotsOf_mem.mp hc, rfl, rfl⟩
theorem frule_fst {n : Nat} {s : Int} {vs : List Ct} : (frule n s vs).1 = wrule n s (vs.map (·.1)) := by
  unfold wrule
  rcases frule_cases n s vs with ⟨c, hc, e, _⟩ | ⟨h, e, _⟩
  · rw [e, if_pos (List.mem_map.mpr ⟨_, hc, rfl⟩)]
  · rw [e, if_neg]
    intro m
    obtain ⟨p, hp, e⟩ := List.mem_map.mp m
    exact h p hp e
theorem bestL_map {φ : List Nat → List Nat} (hφ : ∀ c, (φ c).length = c.length) : ∀ {ps : List (List Nat)} {acc : Option (List Nat)}, bestL (acc.map φ) (ps.map φ) = (bestL acc ps).map φ
  | [], acc => rfl
  | p :: ps, acc => by
    rw [List.map_cons]
    unfold bestL
    have e : (∀ c, acc.map φ = some c → (φ p).length < c.length) ↔ (∀ c, acc = some c → p.length < c.length) := by
      cases acc with
      | none => simp
      | some a => simp [hφ]
    by_cases c : ∀ c, acc = some c → p.length < c.length
    · rw [if_pos c, if_pos (e.mpr c)]
      exact bestL_map hφ (ps := ps) (acc := some p)
    · rw [if_neg c, if_neg (mt e.mp c)]
      exact bestL_map hφ
theorem lotsOf_map {σ : Int → Int} (hσ : ∀ a b, σ a = σ b ↔ a = b) {φ : List Nat → List Nat} {s : Int} : ∀ {vs : List Ct}, lotsOf (σ s) (vs.map fun p => (σ p.1, φ p.2)) = (lotsOf s vs).map φ
  | [] => rfl
  | p :: vs => by
    rw [List.map_cons, lotsOf_cons, lotsOf_cons, lotsOf_map hσ]
    by_cases c : p.1 = s
    · rw [if_pos c, if_pos ((hσ _ _).mpr c)]; rfl
    · rw [if_neg c, if_neg (mt (hσ _ _).mp c)]
theorem frule_add {k n : Nat} {s : Int} {vs : List Ct} : (fun p : Ct => (p.1, p.2.map (· + k))) (frule n s vs) = frule n s (vs.map fun p => (p.1, p.2.map (· + k))) := by
  have h := lotsOf_map (σ := fun x => x) (fun _ _ => Iff.rfl) (φ := fun c => c.map (· + k)) (s := s) (vs := vs)
  have h2 := bestL_map (φ := fun c => c.map (· + k)) (fun c => by simp) (ps := lotsOf s vs) (acc := none)
  have h3 : best s none (vs.map fun p => (p.1, p.2.map (· + k))) = (best s none vs).map fun c => c.map (· + k) := by
    unfold best; rw [h]; exact h2
  unfold frule
  rw [h3]
  cases best s none vs with
  | some c => rfl
  | none =>
    simp only [Option.map_none, Prod.mk.injEq, true_and]
    rw [List.map_flatten, List.map_map, List.map_map]; rfl
theorem frule_sw {n : Nat} {s : Int} {vs : List Ct} : (fun p : Ct => (1 - p.1, p.2)) (frule n s vs) = frule n (1 - s) (vs.map fun p => (1 - p.1, p.2)) := by
  have h := lotsOf_map (σ := fun x => 1 - x) (fun a b => ⟨fun h => by have h : (1 : Int) - a = 1 - b := h; omega, fun h => by rw [h]⟩) (φ := fun c => c) (s := s) (vs := vs)
  rw [List.map_id'] at h
  unfold frule best
  rw [h]
  cases bestL none (lotsOf s vs) with
  | some c => rfl
  | none =>
    simp only [Prod.mk.injEq, List.map_map]
    exact ⟨trivial, rfl⟩
mutual
theorem evalO_homS {α β : Type} {f : Nat → Int → List α → α} {f' : Nat → Int → List β → β} {g : Nat → Int → α} {g' : Nat → Int → β} (φ : α → β) (h : ∀ n s vs, φ (f n s vs) = f' n (1 - s) (vs.map φ)) (hg : ∀ l o, g' l (1 - o) = φ (g l o)) : ∀ (t : Tr) (l : Nat), evalO f' g' t.sw l = φ (evalO f g t l)
  | .lf o, l => by rw [Tr.sw, evalO, evalO, hg]
  | .nd s ts, l => by rw [Tr.sw, evalO, evalO, evalOL_homS φ h hg ts, h]
theorem evalOL_homS {α β : Type} {f : Nat → Int → List α → α} {f' : Nat → Int → List β → β} {g : Nat → Int → α} {g' : Nat → Int → β} (φ : α → β) (h : ∀ n s vs, φ (f n s vs) = f' n (1 - s) (vs.map φ)) (hg : ∀ l o, g' l (1 - o) = φ (g l o)) : ∀ (ts : List Tr) (l : Nat), evalOL f' g' (swL ts) l = (evalOL f g ts l).map φ
  | [], l => by rw [swL, evalOL, evalOL]; rfl
  | t :: ts, l => by rw [swL, evalOL, evalOL, sw_nl, evalO_homS φ h hg t, evalOL_homS φ h hg ts, List.map_cons]
end
theorem evalOL_at {α : Type} {f : Nat → Int → List α → α} {g : Nat → Int → α} : ∀ {ts : List Tr} {l i : Nat} {t : Tr}, ts[i]? = some t → (evalOL f g ts l)[i]? = some (evalO f g t (l + nlL (ts.take i)))
  | [], l, i, t, h => by simp at h
  | u :: ts, l, 0, t, h => by
    simp only [List.getElem?_cons_zero, Option.some.injEq] at h
    subst h
    simp [evalOL, nlL_nil]
  | u :: ts, l, i + 1, t, h => by
    simp only [List.getElem?_cons_succ] at h
    rw [evalOL, List.getElem?_cons_succ, evalOL_at h, List.take_succ_cons, nlL_cons, Nat.add_assoc]
theorem evalOL_len {α : Type} {f : Nat → Int → List α → α} {g : Nat → Int → α} : ∀ {ts : List Tr} {l : Nat}, (evalOL f g ts l).length = ts.length
  | [], l => by simp [evalOL]
  | t :: ts, l => by simp [evalOL, evalOL_len (ts := ts)]
theorem off_le : ∀ {ts : List Tr} {i : Nat} {t : Tr}, ts[i]? = some t → nlL (ts.take i) + t.nl ≤ nlL ts
  | [], i, t, h => by simp at h
  | u :: ts, 0, t, h => by
    simp only [List.getElem?_cons_zero, Option.some.injEq] at h
    subst h
    rw [List.take_zero, nlL_nil, nlL_cons]; omega
  | u :: ts, i + 1, t, h => by
    simp only [List.getElem?_cons_succ] at h
    have := off_le h
    rw [List.take_succ_cons, nlL_cons, nlL_cons]; omega
theorem off_lt {ts : List Tr} {i j : Nat} {t : Tr} (h : ts[i]? = some t) (hj : i < j) (hl : j ≤ ts.length) : nlL (ts.take i) + t.nl ≤ nlL (ts.take j) := by
  have h2 : (ts.take j)[i]? = some t := by rw [List.getElem?_take_of_lt hj]; exact h
  have := off_le h2
  rw [List.take_take, Nat.min_eq_left (by omega)] at this
  exact this
/-- winner and lot of a tree whose leaves begin at l -/
def cO (t : Tr) (l : Nat) : Ct := evalO frule (fun l o => (o, [l])) t l
def cOL (ts : List Tr) (l : Nat) : List Ct := evalOL frule (fun l o => (o, [l])) ts l
def gk (κ : Nat → Bool) : Nat → Int → Option Int := fun l o => if κ l = true then some o else none
theorem cO_nd {s : Int} {ts : List Tr} {l : Nat} : cO (.nd s ts) l = frule 0 s (cOL ts l) := by unfold cO cOL; rw [evalO]
theorem cO_lf {o : Int} {l : Nat} : cO (.lf o) l = (o, [l]) := by unfold cO; rw [evalO]
theorem cOL_at {ts : List Tr} {l i : Nat} {t : Tr} (h : ts[i]? = some t) : (cOL ts l)[i]? = some (cO t (l + nlL (ts.take i))) := evalOL_at h
theorem cOL_mem {ts : List Tr} {l : Nat} {p : Ct} (h : p ∈ cOL ts l) : ∃ i t, ts[i]? = some t ∧ p = cO t (l + nlL (ts.take i)) := by
  obtain ⟨i, hi, rfl⟩ := List.getElem_of_mem h
  have hl : (cOL ts l).length = ts.length := evalOL_len
  have e := List.getElem?_eq_getElem (show i < ts.length by omega)
  have := cOL_at (l := l) e
  rw [List.getElem?_eq_getElem hi] at this
  exact ⟨i, _, e, by simpa using this⟩
theorem ht_mem {s : Int} {ts : List Tr} {i : Nat} {t : Tr} {m : Nat} (h : ts[i]? = some t) (hm : (Tr.nd s ts).ht ≤ m + 1) : t.ht ≤ m := by
  have := htL_mem (List.mem_of_getElem? h)
  rw [Tr.ht] at hm; omega
/-- a lot names leaves of its tree -/
theorem cO_in : ∀ (m : Nat) (t : Tr) (l : Nat), t.ht ≤ m → ∀ x, x ∈ (cO t l).2 → l ≤ x ∧ x < l + t.nl
  | m, .lf o, l, _, x, hx => by
    rw [cO_lf] at hx
    rw [nl_lf]
    have : x = l := by simpa using hx
    omega
  | 0, .nd s ts, l, hm, x, hx => by rw [Tr.ht] at hm; omega
  | m + 1, .nd s ts, l, hm, x, hx => by
    have key : ∀ p, p ∈ cOL ts l → x ∈ p.2 → l ≤ x ∧ x < l + (Tr.nd s ts).nl := by
      intro p hp hx
      obtain ⟨i, t, e, rfl⟩ := cOL_mem hp
      have h1 := cO_in m t _ (ht_mem e hm) x hx
      have h2 := off_le e
      rw [nl_nd]; omega
    rw [cO_nd] at hx
    rcases frule_cases 0 s (cOL ts l) with ⟨c, hc, e, _⟩ | ⟨_, e, _⟩
    · rw [e] at hx; exact key _ hc hx
    · rw [e] at hx
      obtain ⟨c, hc, hx⟩ := List.mem_flatten.mp hx
      obtain ⟨p, hp, rfl⟩ := List.mem_map.mp hc
      exact key p hp hx
theorem flatten_asc : ∀ {ts : List Tr} {l : Nat}, (∀ i t, ts[i]? = some t → ((cO t (l + nlL (ts.take i))).2).Pairwise (· < ·)) → (((cOL ts l).map (·.2)).flatten).Pairwise (· < ·) ∧ ∀ x, x ∈ ((cOL ts l).map (·.2)).flatten → l ≤ x
  | [], l, _ => by simp [cOL, evalOL]
  | t :: ts, l, h => by
    have e : cOL (t :: ts) l = cO t l :: cOL ts (l + t.nl) := by unfold cOL cO; rw [evalOL]
    have h0 := h 0 t (by simp)
    rw [List.take_zero, nlL_nil, Nat.add_zero] at h0
    obtain ⟨i1, i2⟩ := flatten_asc (ts := ts) (l := l + t.nl) fun i u hu => by
      have := h (i + 1) u (by simpa using hu)
      rw [List.take_succ_cons, nlL_cons, ← Nat.add_assoc] at this
      exact this
    rw [e, List.map_cons, List.flatten_cons]
    have r := cO_in t.ht t l (Nat.le_refl _)
    refine ⟨List.pairwise_append.mpr ⟨h0, i1, fun a ha b hb => ?_⟩, fun x hx => ?_⟩
    · have := r a ha; have := i2 b hb; omega
    · rcases List.mem_append.mp hx with hx | hx
      · exact (r x hx).1
      · have := i2 x hx; omega
theorem cO_asc : ∀ (m : Nat) (t : Tr) (l : Nat), t.ht ≤ m → ((cO t l).2).Pairwise (· < ·)
  | m, .lf o, l, _ => by rw [cO_lf]; simp
  | 0, .nd s ts, l, hm => by rw [Tr.ht] at hm; omega
  | m + 1, .nd s ts, l, hm => by
    rw [cO_nd]
    rcases frule_cases 0 s (cOL ts l) with ⟨c, hc, e, _⟩ | ⟨_, e, _⟩
    · rw [e]
      obtain ⟨i, t, e1, e2⟩ := cOL_mem hc
      have := cO_asc m t (l + nlL (ts.take i)) (ht_mem e1 hm)
      rw [← e2] at this; exact this
    · rw [e]
      exact (flatten_asc fun i t e1 => cO_asc m t _ (ht_mem e1 hm)).1
theorem w3_yes {n : Nat} {s : Int} {vs : List (Option Int)} (h : some s ∈ vs) : w3 n s vs = some s := by
  unfold w3; rw [if_pos h]
theorem w3_no {n : Nat} {s : Int} {vs : List (Option Int)} (h : ¬ some s ∈ vs) (h2 : ¬ none ∈ vs) : w3 n s vs = some (1 - s) := by
  unfold w3; rw [if_neg h, if_neg h2]
/-- a lot holds the winner -/
theorem cO_suff (κ : Nat → Bool) : ∀ (m : Nat) (t : Tr) (l : Nat), t.ht ≤ m → (∀ x, x ∈ (cO t l).2 → κ x = true) → evalO w3 (gk κ) t l = some (cO t l).1
  | m, .lf o, l, _, h => by
    rw [cO_lf] at h ⊢
    rw [evalO]
    unfold gk
    rw [if_pos (h l (by simp))]
  | 0, .nd s ts, l, hm, h => by rw [Tr.ht] at hm; omega
  | m + 1, .nd s ts, l, hm, h => by
    rw [cO_nd] at h ⊢
    rw [evalO]
    rcases frule_cases 0 s (cOL ts l) with ⟨c, hc, e, _⟩ | ⟨hn, e, _⟩
    · rw [e] at h ⊢
      obtain ⟨i, t, e1, e2⟩ := cOL_mem hc
      have ih := cO_suff κ m t (l + nlL (ts.take i)) (ht_mem e1 hm) (by rw [← e2]; exact h)
      rw [← e2] at ih
      have e3 := evalOL_at (f := w3) (g := gk κ) (l := l) e1
      rw [ih] at e3
      exact w3_yes (List.mem_of_getElem? e3)
    · rw [e] at h ⊢
      have all : ∀ i t, ts[i]? = some t → (evalOL w3 (gk κ) ts l)[i]? = some (some (cO t (l + nlL (ts.take i))).1) ∧ (cO t (l + nlL (ts.take i))).1 ≠ s := by
        intro i t e1
        have e4 := cOL_at (l := l) e1
        have hp := List.mem_of_getElem? e4
        have ih := cO_suff κ m t (l + nlL (ts.take i)) (ht_mem e1 hm) fun x hx => h x (List.mem_flatten.mpr ⟨_, List.mem_map.mpr ⟨_, hp, rfl⟩, hx⟩)
        exact ⟨by rw [evalOL_at e1, ih], hn _ hp⟩
      have mem : ∀ v, v ∈ evalOL w3 (gk κ) ts l → ∃ o, v = some o ∧ o ≠ s := by
        intro v hv
        obtain ⟨i, hi, rfl⟩ := List.getElem_of_mem hv
        rw [evalOL_len] at hi
        obtain ⟨a, b⟩ := all i _ (List.getElem?_eq_getElem hi)
        rw [List.getElem?_eq_getElem (by rw [evalOL_len]; exact hi)] at a
        exact ⟨_, by simpa using a, b⟩
      refine w3_no (fun hm => ?_) (fun hm => ?_)
      · obtain ⟨o, a, b⟩ := mem _ hm
        cases a; exact b rfl
      · obtain ⟨o, a, _⟩ := mem _ hm
        cases a
theorem w3_none {n : Nat} {s : Int} {vs : List (Option Int)} (h : ¬ some s ∈ vs) (h2 : none ∈ vs) : w3 n s vs = none := by
  unfold w3; rw [if_neg h, if_pos h2]
/-- nothing is known -/
theorem w3_open (κ : Nat → Bool) : ∀ (m : Nat) (t : Tr) (l : Nat), t.ht ≤ m → t.wf → (∀ x, l ≤ x → x < l + t.nl → κ x = false) → evalO w3 (gk κ) t l = none
  | m, .lf o, l, _, _, h => by
    rw [evalO]
    unfold gk
    rw [if_neg (by rw [h l (by omega) (by rw [nl_lf]; omega)]; simp)]
  | 0, .nd s ts, l, hm, _, h => by rw [Tr.ht] at hm; omega
  | m + 1, .nd s ts, l, hm, w, h => by
    rw [evalO]
    simp only [Tr.wf] at w
    rw [nl_nd] at h
    have mem : ∀ v, v ∈ evalOL w3 (gk κ) ts l → v = none := by
      intro v hv
      obtain ⟨i, hi, rfl⟩ := List.getElem_of_mem hv
      rw [evalOL_len] at hi
      have e := List.getElem?_eq_getElem hi
      have ih := w3_open κ m ts[i] (l + nlL (ts.take i)) (ht_mem e hm) (wfL_mem.mp w.2.2.2 _ (List.getElem_mem hi)) fun x a b => h x (by omega) (by have := off_le e; omega)
      have a := evalOL_at (f := w3) (g := gk κ) (l := l) e
      rw [ih, List.getElem?_eq_getElem (by rw [evalOL_len]; exact hi)] at a
      simpa using a
    refine w3_none (fun hm => by have := mem _ hm; cases this) ?_
    have h0 : 0 < (evalOL w3 (gk κ) ts l).length := by rw [evalOL_len]; omega
    have := mem _ (List.getElem_mem h0)
    rw [← this]; exact List.getElem_mem h0
/-- a lot that is thinned holds nothing -/
theorem cO_thin (κ : Nat → Bool) (x : Nat) : ∀ (m : Nat) (t : Tr) (l : Nat), t.ht ≤ m → t.wf → x ∈ (cO t l).2 → (∀ y, l ≤ y → y < l + t.nl → (κ y = true ↔ y ∈ (cO t l).2 ∧ y ≠ x)) → evalO w3 (gk κ) t l = none
  | m, .lf o, l, _, _, hx, h => by
    rw [cO_lf] at h hx
    have hx : x = l := by simpa using hx
    subst hx
    rw [evalO]
    unfold gk
    rw [if_neg]
    intro hk
    exact ((h x (by omega) (by rw [nl_lf]; omega)).mp hk).2 rfl
  | 0, .nd s ts, l, hm, _, _, h => by rw [Tr.ht] at hm; omega
  | m + 1, .nd s ts, l, hm, w, hx, h => by
    rw [evalO]
    simp only [Tr.wf] at w
    rw [nl_nd] at h
    rw [cO_nd] at hx h
    have wt : ∀ {i : Nat} {t : Tr}, ts[i]? = some t → t.wf := fun e => wfL_mem.mp w.2.2.2 _ (List.mem_of_getElem? e)
    have rng : ∀ {i : Nat} {t : Tr} {y : Nat}, ts[i]? = some t → y ∈ (cO t (l + nlL (ts.take i))).2 → l + nlL (ts.take i) ≤ y ∧ y < l + nlL (ts.take i) + t.nl := fun {i t y} e hy => cO_in t.ht t _ (Nat.le_refl _) y hy
    have dis : ∀ {i j : Nat} {t u : Tr} {y : Nat}, ts[i]? = some t → ts[j]? = some u → l + nlL (ts.take i) ≤ y → y < l + nlL (ts.take i) + t.nl → l + nlL (ts.take j) ≤ y → y < l + nlL (ts.take j) + u.nl → i = j := fun {i j t u y} e1 e2 a b c d => by
      have hi := (List.getElem?_eq_some_iff.mp e1).1
      have hj := (List.getElem?_eq_some_iff.mp e2).1
      rcases Nat.lt_trichotomy i j with q | q | q
      · have := off_lt e1 q (by omega); omega
      · exact q
      · have := off_lt e2 q (by omega); omega
    have val : ∀ {v : Option Int}, v ∈ evalOL w3 (gk κ) ts l → ∃ i t, ts[i]? = some t ∧ v = evalO w3 (gk κ) t (l + nlL (ts.take i)) := fun {v} hv => by
      obtain ⟨i, hi, rfl⟩ := List.getElem_of_mem hv
      rw [evalOL_len] at hi
      have e := List.getElem?_eq_getElem hi
      have a := evalOL_at (f := w3) (g := gk κ) (l := l) e
      rw [List.getElem?_eq_getElem (by rw [evalOL_len]; exact hi)] at a
      exact ⟨i, _, e, by simpa using a⟩
    rcases frule_cases 0 s (cOL ts l) with ⟨c, hc, e, _⟩ | ⟨hn, e, _⟩
    · rw [e] at h hx
      obtain ⟨i, t, e1, e2⟩ := cOL_mem hc
      have ec : c = (cO t (l + nlL (ts.take i))).2 := by rw [← e2]
      subst ec
      have each : ∀ j u, ts[j]? = some u → evalO w3 (gk κ) u (l + nlL (ts.take j)) = none := by
        intro j u e3
        by_cases q : j = i
        · subst q
          rw [e1] at e3; cases e3
          exact cO_thin κ x m t _ (ht_mem e1 hm) (wt e1) hx fun y a b => h y (by omega) (by have := off_le e1; omega)
        · refine w3_open κ m u _ (ht_mem e3 hm) (wt e3) fun y a b => ?_
          cases hk : κ y with
          | false => rfl
          | true =>
            have := ((h y (by omega) (by have := off_le e3; omega)).mp hk).1
            obtain ⟨a1, b1⟩ := rng e1 this
            exact absurd (dis e3 e1 a b a1 b1) q
      refine w3_none (fun hv => ?_) ?_
      · obtain ⟨j, u, e3, e4⟩ := val hv
        rw [each j u e3] at e4; cases e4
      · have := evalOL_at (f := w3) (g := gk κ) (l := l) e1
        rw [each i t e1] at this
        exact List.mem_of_getElem? this
    · rw [e] at h hx
      obtain ⟨c, hc, hx⟩ := List.mem_flatten.mp hx
      obtain ⟨p, hp, rfl⟩ := List.mem_map.mp hc
      obtain ⟨i, t, e1, rfl⟩ := cOL_mem hp
      have inF : ∀ {j : Nat} {u : Tr} {y : Nat}, ts[j]? = some u → y ∈ (cO u (l + nlL (ts.take j))).2 → y ∈ ((cOL ts l).map (·.2)).flatten := fun {j u y} e3 hy => List.mem_flatten.mpr ⟨_, List.mem_map.mpr ⟨_, List.mem_of_getElem? (cOL_at (l := l) e3), rfl⟩, hy⟩
      obtain ⟨xa, xb⟩ := rng e1 hx
      have hi : evalO w3 (gk κ) t (l + nlL (ts.take i)) = none := by
        refine cO_thin κ x m t _ (ht_mem e1 hm) (wt e1) hx fun y a b => ?_
        rw [h y (by omega) (by have := off_le e1; omega)]
        constructor
        · rintro ⟨hy, ny⟩
          obtain ⟨c, hc, hy⟩ := List.mem_flatten.mp hy
          obtain ⟨p, hp, rfl⟩ := List.mem_map.mp hc
          obtain ⟨j, u, e3, rfl⟩ := cOL_mem hp
          obtain ⟨a1, b1⟩ := rng e3 hy
          have := dis e3 e1 a1 b1 a b
          subst this
          rw [e1] at e3; cases e3
          exact ⟨hy, ny⟩
        · rintro ⟨hy, ny⟩
          exact ⟨inF e1 hy, ny⟩
      refine w3_none (fun hv => ?_) ?_
      · obtain ⟨j, u, e3, e4⟩ := val hv
        by_cases q : j = i
        · subst q
          rw [e1] at e3; cases e3
          rw [hi] at e4; cases e4
        · rw [cO_suff κ m u _ (ht_mem e3 hm) fun y hy => by
            obtain ⟨a1, b1⟩ := rng e3 hy
            refine (h y (by omega) (by have := off_le e3; omega)).mpr ⟨inF e3 hy, ?_⟩
            rintro rfl
            exact q (dis e3 e1 a1 b1 xa xb)] at e4
          exact hn _ (List.mem_of_getElem? (cOL_at (l := l) e3)) (by simpa using e4.symm)
      · have := evalOL_at (f := w3) (g := gk κ) (l := l) e1
        rw [hi] at this
        exact List.mem_of_getElem? this
theorem cO_shift {t : Tr} {l k : Nat} : cO t (l + k) = ((cO t l).1, (cO t l).2.map (· + k)) := by
  unfold cO
  rw [evalO_congr (g' := fun i o => (fun p : Ct => (p.1, p.2.map (· + k))) ((fun l o => (o, [l])) i o)) t (l + k) l fun i o _ => by simp; omega]
  rw [evalO_hom (f := frule) (fun p : Ct => (p.1, p.2.map (· + k))) fun n s vs => frule_add]
theorem cO_sw {t : Tr} {l : Nat} : cO t.sw l = (1 - (cO t l).1, (cO t l).2) := by
  unfold cO
  exact evalO_homS (f := frule) (f' := frule) (fun p : Ct => (1 - p.1, p.2)) (fun n s vs => frule_sw) (fun l o => rfl) t l
/-- the winner by the leaves' own outcomes -/
def winO (t : Tr) : Int := evalO wrule (fun _ o => o) t 0
theorem win_O {t : Tr} : win t.ends t = winO t := by
  unfold win winO
  exact evalO_T0 (g := fun _ o => o) noN_wrule
theorem cO_fst {t : Tr} {l : Nat} : (cO t l).1 = winO t := by
  unfold cO winO
  rw [← evalO_hom (f' := wrule) (g := fun l o => ((o, [l]) : Ct)) (fun p : Ct => p.1) fun n s vs => frule_fst]
  exact evalO_congr t l 0 fun i o _ => rfl
end DU

set_option maxHeartbeats 4000000
namespace DU
open PySem PySem.Spec L2 DL
/-! ### what a list that is filled holds -/
section
variable {α : Type} {f : Nat → Int → List α → α} {g : Nat → α} {d0 : α} {t : Tr}
theorem vals_at {j : Nat} {s : Int} {ks : List Ch} (h1 : t.sides[j]? = some s) (h2 : (t.kids 0 0)[j]? = some ks) : (valsT f g t 0 0)[j]? = some (f j s (ks.map (atC g fun m => (valsT f g t 0 0).getD m d0))) := by
  have := node_val f g (W := fun m => (valsT f g t 0 0).getD m d0) t 0 0 (fun j x h => by
    show (valsT f g t 0 0).getD (0 + j) d0 = x
    rw [Nat.zero_add, List.getD_eq_getElem?_getD, h]; rfl) j s ks h1 h2
  rw [Nat.zero_add] at this
  exact this
theorem root_vals : atC g (fun m => (valsT f g t 0 0).getD m d0) (t.root 0 0) = evalT f g t 0 0 :=
  root_val f g t 0 0 fun j x h => by
    show (valsT f g t 0 0).getD (0 + j) d0 = x
    rw [Nat.zero_add, List.getD_eq_getElem?_getD, h]; rfl
end
def lo (es : List (Option Int)) (l : Nat) : Option Int := es.getD l none
theorem lo_map {es : List Int} {l : Nat} (h : l < es.length) : lo (es.map some) l = some (lv es l) := by
  unfold lo lv
  rw [List.getD_eq_getElem?_getD, List.getD_eq_getElem?_getD, List.getElem?_map, List.getElem?_eq_getElem h]; rfl
theorem lo_at {es : List (Option Int)} {l : Nat} (h : l < es.length) : es[l]? = some (lo es l) := by
  unfold lo
  rw [List.getD_eq_getElem?_getD, List.getElem?_eq_getElem h]; rfl
def vals3 (es : List (Option Int)) (t : Tr) : List (Option Int) := valsT w3 (lo es) t 0 0
def ev3 (es : List (Option Int)) (t : Tr) : Option Int := evalT w3 (lo es) t 0 0
theorem ev3_full {es : List Int} {t : Tr} (h : es.length = t.nl) : ev3 (es.map some) t = some (win es t) := by
  unfold ev3 win
  rw [evalT_cg (g' := fun l => some (lv es l)) t 0 0 fun i _ hi => lo_map (by omega)]
  exact evalT_hom (f := wrule) (f' := w3) some (fun n s vs => w3_all.symm) t 0 0
mutual
theorem vals_hom {α β : Type} {f : Nat → Int → List α → α} {f' : Nat → Int → List β → β} {g : Nat → α} (φ : α → β) (h : ∀ n s vs, φ (f n s vs) = f' n s (vs.map φ)) : ∀ (t : Tr) (n l : Nat), valsT f' (fun i => φ (g i)) t n l = (valsT f g t n l).map φ
  | .lf _, n, l => by rw [valsT, valsT]; rfl
  | .nd s ts, n, l => by rw [valsT, valsT, evalL_hom φ h ts, valsL_hom φ h ts, List.map_cons, h]
theorem valsL_hom {α β : Type} {f : Nat → Int → List α → α} {f' : Nat → Int → List β → β} {g : Nat → α} (φ : α → β) (h : ∀ n s vs, φ (f n s vs) = f' n s (vs.map φ)) : ∀ (ts : List Tr) (n l : Nat), valsL f' (fun i => φ (g i)) ts n l = (valsL f g ts n l).map φ
  | [], n, l => by rw [valsL, valsL]; rfl
  | t :: ts, n, l => by rw [valsL, valsL, vals_hom φ h t, valsL_hom φ h ts, List.map_append]
end
mutual
theorem vals_cg {α : Type} {f : Nat → Int → List α → α} {g g' : Nat → α} : ∀ (t : Tr) (n l : Nat), (∀ i, l ≤ i → i < l + t.nl → g i = g' i) → valsT f g t n l = valsT f g' t n l
  | .lf _, n, l, h => by rw [valsT, valsT]
  | .nd s ts, n, l, h => by
    rw [nl_nd] at h
    rw [valsT, valsT, evalL_cg ts (n + 1) l h, valsL_cg ts (n + 1) l h]
theorem valsL_cg {α : Type} {f : Nat → Int → List α → α} {g g' : Nat → α} : ∀ (ts : List Tr) (n l : Nat), (∀ i, l ≤ i → i < l + nlL ts → g i = g' i) → valsL f g ts n l = valsL f g' ts n l
  | [], n, l, h => by rw [valsL, valsL]
  | t :: ts, n, l, h => by
    rw [nlL_cons] at h
    rw [valsL, valsL, vals_cg t n l fun i a b => h i a (by omega), valsL_cg ts _ _ fun i a b => h i (by omega) (by omega)]
end
theorem vals3_full {es : List Int} {t : Tr} (h : es.length = t.nl) : vals3 (es.map some) t = (wins es t).map some := by
  unfold vals3 wins
  rw [vals_cg (g' := fun l => some (lv es l)) t 0 0 fun i _ hi => lo_map (by omega)]
  exact vals_hom (f := wrule) (f' := w3) some (fun n s vs => w3_all.symm) t 0 0
/-! ### lots of leaves -/
def okLot (t : Tr) (lot : List Int) : Prop := (∀ x, x ∈ lot → 0 ≤ x ∧ x < t.nl) ∧ lot.Pairwise (· < ·)
def inLot (lot : List Int) : Nat → Bool := fun l => decide ((l : Int) ∈ lot)
/-- what a lot certifies -/
def certO (t : Tr) (lot : List Int) : Option Int := evalO w3 (gk (inLot lot)) t 0
def certW (es : List Int) (t : Tr) (lot : List Int) : Option Int := evalT w3 (fun l => if inLot lot l = true then some (lv es l) else none) t 0 0
theorem certW_O {t : Tr} {lot : List Int} : certW t.ends t lot = certO t lot := by
  unfold certW certO
  exact evalO_T0 (g := gk (inLot lot)) noN_w3
def fillL (es : List Int) (lot : List Int) (r : Int) : Nat → Int := fun l => if inLot lot l = true then lv es l else r
theorem certW_two {es : List Int} {t : Tr} {lot : List Int} (he : ∀ o, o ∈ es → bit o) (w : t.wf) : certW es t lot = if evalT wrule (fillL es lot 0) t 0 0 = evalT wrule (fillL es lot 1) t 0 0 then some (evalT wrule (fillL es lot 0) t 0 0) else none := by
  unfold certW
  rw [w3_two (fun l o e => by
    split at e
    · cases e; exact lv_bit he l
    · cases e) w]
  have e : ∀ r : Int, (fun i => (if inLot lot i = true then some (lv es i) else none).getD r) = fillL es lot r := fun r => by
    funext i; unfold fillL; split <;> rfl
  rw [e 0, e 1]
def lotD (c : List Nat) : D := .tup (c.map fun n => D.int ((n : Nat) : Int))
def lotI (c : List Nat) : List Int := c.map fun n => ((n : Nat) : Int)
theorem lotD_I {c : List Nat} : lotD c = .tup ((lotI c).map D.int) := by unfold lotD lotI; rw [List.map_map]; rfl
theorem inLot_I {c : List Nat} {l : Nat} : inLot (lotI c) l = decide (l ∈ c) := by
  unfold inLot lotI
  congr 1
  simp only [List.mem_map, eq_iff_iff]
  constructor
  · rintro ⟨a, h, e⟩
    have : a = l := by omega
    rw [← this]; exact h
  · intro h; exact ⟨l, h, rfl⟩
theorem okLot_cert {t : Tr} : okLot t (lotI (cO t 0).2) := by
  refine ⟨fun x hx => ?_, ?_⟩
  · obtain ⟨n, hn, rfl⟩ := List.mem_map.mp hx
    have := cO_in t.ht t 0 (Nat.le_refl _) n hn
    omega
  · unfold lotI
    rw [List.pairwise_map]
    exact (cO_asc t.ht t 0 (Nat.le_refl _)).imp fun h => by omega
theorem cert_holds {t : Tr} : certO t (lotI (cO t 0).2) = some (winO t) := by
  unfold certO
  rw [cO_suff _ t.ht t 0 (Nat.le_refl _) fun x hx => by rw [inLot_I]; simpa using hx, cO_fst]
theorem cert_thin {t : Tr} {c : List Nat} {x : Nat} (w : t.wf) (hx : x ∈ (cO t 0).2) (hc : ∀ y, y ∈ c ↔ y ∈ (cO t 0).2 ∧ y ≠ x) : certO t (lotI c) = none := by
  unfold certO
  refine cO_thin _ x t.ht t 0 (Nat.le_refl _) w hx fun y _ _ => ?_
  rw [inLot_I]
  simpa using hc y
theorem certO_bit {t : Tr} {lot : List Int} (w : t.wf) : bitO (certO t lot) := by
  rw [← certW_O]
  unfold certW
  exact w3_bitT (fun l o e => by
    split at e
    · cases e; exact lv_bit (ends_bit w) l
    · cases e) t 0 0 w
theorem certO_sw {t : Tr} {lot : List Int} : certO t.sw lot = (certO t lot).map (1 - ·) := by
  unfold certO
  exact evalO_homS (f := w3) (f' := w3) (Option.map (1 - ·)) (fun n s vs => w3_sw) (fun l o => by unfold gk; split <;> rfl) t 0
theorem winO_bit {t : Tr} (w : t.wf) : bit (winO t) := by
  rw [← win_O]
  exact win_bit (fun l => lv_bit (ends_bit w) l) t 0 0 w
theorem winO_sw {t : Tr} : winO t.sw = 1 - winO t := by
  unfold winO
  exact evalO_homS (f := wrule) (f' := wrule) (1 - ·) (fun n s vs => by
    unfold wrule
    by_cases c : s ∈ vs
    · rw [if_pos c, if_pos (flip_mem.mpr c)]
    · rw [if_neg c, if_neg (mt flip_mem.mp c)]) (fun l o => rfl) t 0
/-- outcomes of other leaves leave what is certified -/
theorem cert_stays {t : Tr} {lot es : List Int} {o : Int} (w : t.wf) (h : certO t lot = some o) (he : ∀ l, inLot lot l = true → lv es l = lv t.ends l) : win es t = o := by
  rw [← certW_O] at h
  unfold certW at h
  exact w3_holds (fun l o e => by
    split at e
    · cases e; exact lv_bit (ends_bit w) l
    · cases e) (fun l v e => by
    split at e
    · rename_i c; cases e; exact he l c
    · cases e) t 0 0 w o h
/-! ### pivot leaves -/
def flipAt (x : Nat) (l : Nat) (o : Int) : Int := if l = x then 1 - o else o
def piv (t : Tr) (x : Nat) : Bool := decide (evalO wrule (flipAt x) t 0 ≠ winO t)
def pivs (t : Tr) : List Nat := (List.range t.nl).filter (piv t)
theorem flipAt_set {es : List Int} {x : Nat} (hx : x < es.length) (l : Nat) : lv (es.set x (1 - lv es x)) l = flipAt x l (lv es l) := by
  unfold flipAt lv
  by_cases c : l = x
  · subst c
    rw [if_pos rfl, List.getD_eq_getElem?_getD, List.getElem?_set_self hx]; rfl
  · rw [if_neg c, List.getD_eq_getElem?_getD, List.getD_eq_getElem?_getD, List.getElem?_set_ne (Ne.symm c)]; rfl
theorem piv_win {t : Tr} {x : Nat} (hx : x < t.nl) : win (t.ends.set x (1 - lv t.ends x)) t = evalO wrule (flipAt x) t 0 := by
  unfold win
  have e : lv (t.ends.set x (1 - lv t.ends x)) = fun l => flipAt x l (lv t.ends l) := funext fun l => flipAt_set hx l
  rw [e]
  exact evalO_T0 (g := flipAt x) noN_wrule
theorem evalO_bit {g : Nat → Int → Int} (hg : ∀ l o, bit o → bit (g l o)) {t : Tr} (w : t.wf) : bit (evalO wrule g t 0) := by
  rw [← evalO_T0 (n := 0) noN_wrule]
  exact win_bit (fun l => hg l _ (lv_bit (ends_bit w) l)) t 0 0 w
theorem flipAt_bit {x l : Nat} {o : Int} (h : bit o) : bit (flipAt x l o) := by
  unfold flipAt; split
  · exact bit_flip h
  · exact h
theorem piv_sw {t : Tr} {x : Nat} : piv t.sw x = piv t x := by
  unfold piv
  rw [winO_sw, evalO_homS (f := wrule) (g := flipAt x) (1 - ·) (fun n s vs => by
    unfold wrule
    by_cases c : s ∈ vs
    · rw [if_pos c, if_pos (flip_mem.mpr c)]
    · rw [if_neg c, if_neg (mt flip_mem.mp c)]) (fun l o => by unfold flipAt; split <;> rfl) t 0]
  congr 1
  simp only [ne_eq, eq_iff_iff]
  constructor
  · intro h e; exact h (by rw [e])
  · intro h e; exact h (by omega)
theorem pivs_sw {t : Tr} : pivs t.sw = pivs t := by
  unfold pivs
  rw [sw_nl]
  congr 1
  funext x; exact piv_sw
/-! ### duels in the place of leaves -/
section
variable {P : Nat → Tr} {S : Nat → Nat} {top : Tr}
theorem S_mono (hS : ∀ k, S (k + 1) = S k + (P k).nl) {j k : Nat} (h : j ≤ k) : S j ≤ S k := by
  induction k with
  | zero => have : j = 0 := by omega
            subst this; exact Nat.le_refl _
  | succ k ih =>
    by_cases c : j = k + 1
    · subst c; exact Nat.le_refl _
    · have := ih (by omega); rw [hS]; omega
theorem S_part (hS : ∀ k, S (k + 1) = S k + (P k).nl) (h0 : S 0 = 0) : ∀ {n x : Nat}, x < S n → ∃ k i, k < n ∧ i < (P k).nl ∧ x = S k + i
  | 0, x, h => by rw [h0] at h; omega
  | n + 1, x, h => by
    by_cases c : x < S n
    · obtain ⟨k, i, a, b, e⟩ := S_part hS h0 c
      exact ⟨k, i, by omega, b, e⟩
    · rw [hS] at h
      exact ⟨n, x - S n, by omega, by omega, by omega⟩
theorem gr_win (hS : ∀ k, S (k + 1) = S k + (P k).nl) (h0 : S 0 = 0) {g : Nat → Int → Int} : evalO wrule g (top.gr P 0) 0 = evalT wrule (fun j => evalO wrule g (P j) (S j)) top 0 0 := by
  have := gr_eval (f := wrule) noN_wrule (g := g) hS top 0 0
  rw [h0] at this; exact this
theorem gr_cO (hS : ∀ k, S (k + 1) = S k + (P k).nl) (h0 : S 0 = 0) : cO (top.gr P 0) 0 = evalT frule (fun j => cO (P j) (S j)) top 0 0 := by
  have := gr_eval (f := frule) noN_frule (g := fun l o => (o, [l])) hS top 0 0
  rw [h0] at this; exact this
theorem gr_cert (hS : ∀ k, S (k + 1) = S k + (P k).nl) (h0 : S 0 = 0) {lot : List Int} : certO (top.gr P 0) lot = evalT w3 (fun j => evalO w3 (gk (inLot lot)) (P j) (S j)) top 0 0 := by
  have := gr_eval (f := w3) noN_w3 (g := gk (inLot lot)) hS top 0 0
  rw [h0] at this; exact this
theorem sub_cert {t : Tr} {s : Nat} {lot sub : List Int} (h : ∀ i : Nat, i < t.nl → (((i : Nat) : Int) ∈ sub ↔ ((s + i : Nat) : Int) ∈ lot)) : certO t sub = evalO w3 (gk (inLot lot)) t s := by
  unfold certO
  refine evalO_congr t 0 s fun i o hi => ?_
  unfold gk inLot
  have := h i hi
  rw [Nat.zero_add]
  simp only [this]
def outer (P : Nat → Tr) (n : Nat) : List Int := (List.range n).map fun j => winO (P j)
theorem outer_lv {n j : Nat} (h : j < n) : lv (outer P n) j = winO (P j) := by
  unfold lv outer
  rw [List.getD_eq_getElem?_getD, List.getElem?_map, List.getElem?_range h]; rfl
theorem outer_len {n : Nat} : (outer P n).length = n := by unfold outer; simp
theorem re_evalO {α : Type} {f : Nat → Int → List α → α} (hf : noN f) {g : Nat → Int → α} {es : List Int} (h : es.length = top.nl) : evalO f g (top.re es 0) 0 = evalT f (fun l => g l (lv es l)) top 0 0 := by
  rw [← evalO_T0 (n := 0) hf, re_ends_all h, re_eval]
theorem winO_off {t : Tr} {s : Nat} : evalO wrule (fun _ o => o) t s = winO t := by
  unfold winO
  exact evalO_congr t s 0 fun _ _ _ => rfl
theorem gr_winO (hS : ∀ k, S (k + 1) = S k + (P k).nl) (h0 : S 0 = 0) : winO (top.gr P 0) = winO (top.re (outer P top.nl) 0) := by
  unfold winO
  rw [gr_win hS h0, re_evalO noN_wrule outer_len]
  refine evalT_cg top 0 0 fun i _ hi => ?_
  rw [winO_off, outer_lv (by omega)]
theorem gr_piv (hS : ∀ k, S (k + 1) = S k + (P k).nl) (h0 : S 0 = 0) (wP : ∀ j, j < top.nl → (P j).wf) {k i : Nat} (hk : k < top.nl) (hi : i < (P k).nl) : piv (top.gr P 0) (S k + i) = (piv (top.re (outer P top.nl) 0) k && piv (P k) i) := by
  have ev : ∀ j, j < top.nl → evalO wrule (flipAt (S k + i)) (P j) (S j) = if j = k then evalO wrule (flipAt i) (P k) 0 else winO (P j) := by
    intro j hj
    by_cases c : j = k
    · subst c
      rw [if_pos rfl]
      refine evalO_congr (P j) (S j) 0 fun a o ha => ?_
      unfold flipAt
      by_cases q : a = i
      · subst q; simp
      · rw [if_neg (by omega), if_neg (by omega)]
    · rw [if_neg c, ← winO_off (s := S j)]
      refine evalO_congr (P j) (S j) (S j) fun a o ha => ?_
      unfold flipAt
      rw [if_neg]
      rcases Nat.lt_or_gt_of_ne c with q | q
      · have := S_mono hS (show j + 1 ≤ k from q)
        rw [hS] at this; omega
      · have := S_mono hS (show k + 1 ≤ j from q)
        rw [hS] at this; omega
  have b1 := winO_bit (wP k hk)
  have b2 : bit (evalO wrule (flipAt i) (P k) 0) := evalO_bit (fun l o h => flipAt_bit h) (wP k hk)
  have e1 : evalO wrule (flipAt (S k + i)) (top.gr P 0) 0 = evalT wrule (fun j => if j = k then evalO wrule (flipAt i) (P k) 0 else winO (P j)) top 0 0 := by
    rw [gr_win hS h0]
    exact evalT_cg top 0 0 fun j _ hj => ev j (by omega)
  have e2 : winO (top.re (outer P top.nl) 0) = evalT wrule (fun j => winO (P j)) top 0 0 := by
    unfold winO
    rw [re_evalO noN_wrule outer_len]
    exact evalT_cg top 0 0 fun j _ hj => outer_lv (by omega)
  have e3 : evalO wrule (flipAt k) (top.re (outer P top.nl) 0) 0 = evalT wrule (fun j => if j = k then 1 - winO (P k) else winO (P j)) top 0 0 := by
    rw [re_evalO noN_wrule outer_len]
    refine evalT_cg top 0 0 fun j _ hj => ?_
    unfold flipAt
    rw [outer_lv (by omega)]
    by_cases c : j = k
    · subst c; simp
    · simp [c]
  unfold piv
  rw [e1, gr_winO hS h0, e2, e3]
  by_cases c : evalO wrule (flipAt i) (P k) 0 = winO (P k)
  · rw [c]
    have : (fun j => if j = k then winO (P k) else winO (P j)) = fun j => winO (P j) := by
      funext j; by_cases q : j = k
      · subst q; simp
      · simp [q]
    rw [this]; simp
  · have c2 : evalO wrule (flipAt i) (P k) 0 = 1 - winO (P k) := by unfold bit at b1 b2; omega
    rw [c2]
    have c3 : 1 - winO (P k) ≠ winO (P k) := by unfold bit at b1; omega
    simp [c3]
theorem filter_parts (hS : ∀ k, S (k + 1) = S k + (P k).nl) (h0 : S 0 = 0) {p q : Nat → Bool} {r : Nat → Nat → Bool} : ∀ n : Nat, (∀ k i, k < n → i < (P k).nl → p (S k + i) = (q k && r k i)) → (List.range (S n)).filter p = ((List.range n).filter q).flatMap fun k => ((List.range (P k).nl).filter (r k)).map (S k + ·)
  | 0, _ => by rw [h0]; rfl
  | n + 1, h => by
    rw [hS, List.range_add, List.filter_append, filter_parts hS h0 n fun k i hk => h k i (by omega), List.range_succ, List.filter_append, List.flatMap_append]
    congr 1
    rw [List.filter_map]
    have e : ∀ i, i < (P n).nl → (p ∘ (S n + ·)) i = (q n && r n i) := fun i hi => h n i (by omega) hi
    cases c : q n with
    | false =>
      rw [List.filter_eq_nil_iff.mpr]
      · simp [c]
      · intro i hi
        rw [e i (List.mem_range.mp hi), c]; simp
    | true =>
      rw [List.filter_congr (q := r n) fun i hi => by rw [e i (List.mem_range.mp hi), c]; simp]
      simp [c]
theorem gr_pivs (hS : ∀ k, S (k + 1) = S k + (P k).nl) (h0 : S 0 = 0) (wP : ∀ j, j < top.nl → (P j).wf) : pivs (top.gr P 0) = (pivs (top.re (outer P top.nl) 0)).flatMap fun k => (pivs (P k)).map (S k + ·) := by
  have e : (top.gr P 0).nl = S top.nl := by
    have := gr_nl hS top 0
    rw [h0, Nat.zero_add, Nat.zero_add] at this; exact this
  unfold pivs
  rw [e, re_nl]
  exact filter_parts hS h0 top.nl fun k i hk hi => gr_piv hS h0 wP hk hi
end
end DU

set_option maxHeartbeats 4000000
namespace DU
open PySem PySem.Spec L2 DL
/-! ### a list of lists -/
def RefsAt (M : Mp) (rs : List Addr) (xs : List (List D)) : Prop := rs.length = xs.length ∧ ∀ (j : Nat) (r : Addr) (x : List D), rs[j]? = some r → xs[j]? = some x → M r = some (.lst x)
theorem RefsAt.nil {M : Mp} : RefsAt M [] [] := ⟨rfl, fun j r x h => by simp at h⟩
theorem RefsAt.get {M : Mp} {rs : List Addr} {xs : List (List D)} {j : Nat} {x : List D} (h : RefsAt M rs xs) (e : xs[j]? = some x) : ∃ r, rs[j]? = some r ∧ M r = some (.lst x) := by
  have hj := (List.getElem?_eq_some_iff.mp e).1
  have e2 := List.getElem?_eq_getElem (show j < rs.length by rw [h.1]; exact hj)
  exact ⟨_, e2, h.2 j _ x e2 e⟩
theorem RefsAt.some {M : Mp} {rs : List Addr} {xs : List (List D)} (h : RefsAt M rs xs) {r : Addr} (hr : r ∈ rs) : ∃ x, M r = some (.lst x) := by
  obtain ⟨j, hj, rfl⟩ := List.getElem_of_mem hr
  exact ⟨_, h.2 j _ _ (List.getElem?_eq_getElem hj) (List.getElem?_eq_getElem (by rw [← h.1]; exact hj))⟩
theorem RefsAt.mono {M M' : Mp} {rs : List Addr} {xs : List (List D)} (h : RefsAt M rs xs) (s : ∀ r o, r ∈ rs → M r = Option.some o → M' r = Option.some o) : RefsAt M' rs xs :=
  ⟨h.1, fun j r x h1 h2 => s r _ (List.mem_of_getElem? h1) (h.2 j r x h1 h2)⟩
theorem RefsAt.snoc {M M' : Mp} {rs : List Addr} {xs : List (List D)} {q : Addr} {x : List D} (h : RefsAt M rs xs) (s : ∀ r o, r ∈ rs → M r = Option.some o → M' r = Option.some o) (hq : M' q = Option.some (.lst x)) : RefsAt M' (rs ++ [q]) (xs ++ [x]) := by
  refine ⟨by simp [h.1], fun j r y h1 h2 => ?_⟩
  have hl := h.1
  by_cases c : j < rs.length
  · rw [List.getElem?_append_left c] at h1
    rw [List.getElem?_append_left (by omega)] at h2
    exact (h.mono s).2 j r y h1 h2
  · rw [List.getElem?_append_right (by omega)] at h1
    rw [List.getElem?_append_right (by omega), ← hl] at h2
    cases k : j - rs.length with
    | zero =>
      rw [k] at h1 h2
      simp at h1 h2
      subst h1; subst h2; exact hq
    | succ k' => rw [k] at h1; simp at h1
end DU

set_option maxHeartbeats 4000000
namespace DU
open PySem PySem.Spec L2 DL
/-! ### numbers of flips -/
def natOf : List Bool → Nat
  | [] => 0
  | b :: r => (if b = true then 1 else 0) + 2 * natOf r
theorem natOf_lt : ∀ {bs : List Bool}, natOf bs < 2 ^ bs.length
  | [] => by simp [natOf]
  | b :: r => by
    have := natOf_lt (bs := r)
    rw [natOf, List.length_cons, Nat.pow_succ]
    split <;> omega
theorem natOf_bit : ∀ {bs : List Bool} {l : Nat}, natOf bs / 2 ^ l % 2 = if bs.getD l false = true then 1 else 0
  | [], l => by simp [natOf]
  | b :: r, 0 => by
    simp only [natOf, Nat.pow_zero, Nat.div_one, List.getD_cons_zero]
    split <;> omega
  | b :: r, l + 1 => by
    rw [List.getD_cons_succ, ← natOf_bit (bs := r) (l := l), natOf, Nat.pow_succ, Nat.mul_comm (2 ^ l) 2, ← Nat.div_div_eq_div_mul]
    congr 2
    split <;> omega
theorem natOf_snoc : ∀ {bs : List Bool} {b : Bool}, natOf (bs ++ [b]) = natOf bs + if b = true then 2 ^ bs.length else 0
  | [], b => by simp [natOf]
  | c :: r, b => by
    rw [List.cons_append, natOf, natOf_snoc (bs := r), natOf, List.length_cons, Nat.pow_succ]
    split <;> split <;> omega
theorem asc_ext : ∀ {c d : List Nat}, c.Pairwise (· < ·) → d.Pairwise (· < ·) → (∀ x, x ∈ c ↔ x ∈ d) → c = d
  | [], [], _, _, _ => rfl
  | [], b :: d, _, _, h => by have := (h b).mpr (by simp); cases this
  | a :: c, [], _, _, h => by have := (h a).mp (by simp); cases this
  | a :: c, b :: d, h1, h2, h => by
    obtain ⟨a1, a2⟩ := List.pairwise_cons.mp h1
    obtain ⟨b1, b2⟩ := List.pairwise_cons.mp h2
    have ab : a = b := by
      have x1 := (h a).mp (by simp)
      have x2 := (h b).mpr (by simp)
      rcases List.mem_cons.mp x1 with x1 | x1
      · exact x1
      · rcases List.mem_cons.mp x2 with x2 | x2
        · exact x2.symm
        · have := b1 a x1; have := a1 b x2; omega
    subst ab
    congr 1
    refine asc_ext a2 b2 fun x => ⟨fun hx => ?_, fun hx => ?_⟩
    · rcases List.mem_cons.mp ((h x).mp (List.mem_cons_of_mem _ hx)) with rfl | q
      · exact absurd (a1 x hx) (Nat.lt_irrefl _)
      · exact q
    · rcases List.mem_cons.mp ((h x).mpr (List.mem_cons_of_mem _ hx)) with rfl | q
      · exact absurd (b1 x hx) (Nat.lt_irrefl _)
      · exact q
theorem range_asc {n : Nat} {p : Nat → Bool} : ((List.range n).filter p).Pairwise (· < ·) := List.pairwise_lt_range.filter _
theorem asc_filter {c : List Nat} {n : Nat} (h : c.Pairwise (· < ·)) (hn : ∀ x, x ∈ c → x < n) : c = (List.range n).filter fun x => decide (x ∈ c) :=
  asc_ext h range_asc fun x => ⟨fun hx => List.mem_filter.mpr ⟨List.mem_range.mpr (hn x hx), by simpa using hx⟩, fun hx => by simpa using (List.mem_filter.mp hx).2⟩
def maskN (c : List Nat) : Nat := (c.map (2 ^ ·)).sum
theorem mask_range {p : Nat → Bool} : ∀ n, maskN ((List.range n).filter p) = natOf ((List.range n).map p)
  | 0 => rfl
  | n + 1 => by
    rw [List.range_succ, List.filter_append, List.map_append, List.map_singleton, natOf_snoc, ← mask_range n]
    unfold maskN
    rw [List.map_append, List.sum_append, List.length_map, List.length_range]
    by_cases q : p n = true <;> simp [q]
theorem mask_bit {c : List Nat} {n : Nat} (h : c.Pairwise (· < ·)) (hn : ∀ x, x ∈ c → x < n) (l : Nat) : maskN c / 2 ^ l % 2 = if l ∈ c then 1 else 0 := by
  conv => lhs; rw [asc_filter h hn, mask_range, natOf_bit]
  rw [List.getD_eq_getElem?_getD, List.getElem?_map]
  by_cases q : l < n
  · rw [List.getElem?_range q]; simp
  · have : l ∉ c := fun z => q (hn l z)
    rw [List.getElem?_eq_none (by simpa using q)]; simp [this]
theorem mask_lt {c : List Nat} {n : Nat} (h : c.Pairwise (· < ·)) (hn : ∀ x, x ∈ c → x < n) : maskN c < 2 ^ n := by
  rw [asc_filter h hn, mask_range]
  have := natOf_lt (bs := (List.range n).map fun x => decide (x ∈ c))
  simpa using this
theorem and_pos {x y : Nat} : 0 < x &&& y ↔ ∃ l, x / 2 ^ l % 2 = 1 ∧ y / 2 ^ l % 2 = 1 := by
  constructor
  · intro h
    obtain ⟨i, hi⟩ := Nat.exists_testBit_of_ne_zero (x := x &&& y) (by omega)
    rw [Nat.testBit_and, Bool.and_eq_true] at hi
    rw [Nat.testBit_eq_decide_div_mod_eq, Nat.testBit_eq_decide_div_mod_eq] at hi
    exact ⟨i, by simpa using hi.1, by simpa using hi.2⟩
  · rintro ⟨i, h1, h2⟩
    have : (x &&& y).testBit i = true := by
      rw [Nat.testBit_and, Nat.testBit_eq_decide_div_mod_eq, Nat.testBit_eq_decide_div_mod_eq]; simp [h1, h2]
    rcases Nat.eq_zero_or_pos (x &&& y) with z | z
    · rw [z] at this; simp at this
    · exact z
/-- the outcomes that a number flips -/
def flipN (es : List Int) (N : Nat) (l : Nat) : Int := (lv es l + ((N / 2 ^ l : Nat) : Int)) % 2
theorem flipN_zero {es : List Int} {N l : Nat} (hb : bit (lv es l)) (h : N / 2 ^ l % 2 = 0) : flipN es N l = lv es l := by
  unfold flipN; unfold bit at hb; omega
theorem flipN_one {es : List Int} {N l : Nat} (hb : bit (lv es l)) (h : N / 2 ^ l % 2 = 1) : flipN es N l = 1 - lv es l := by
  unfold flipN; unfold bit at hb; omega
theorem flipN_bit {es : List Int} {N l : Nat} : bit (flipN es N l) := by unfold flipN bit; omega
def fwin (t : Tr) (N : Nat) : Int := evalT wrule (flipN t.ends N) t 0 0
def parts (t : Tr) : List Nat := (List.range (2 ^ t.nl)).filter fun N => decide (1 ≤ N ∧ fwin t N ≠ winO t)
theorem parts_mem {t : Tr} {N : Nat} : N ∈ parts t ↔ 1 ≤ N ∧ N < 2 ^ t.nl ∧ fwin t N ≠ winO t := by
  unfold parts
  rw [List.mem_filter, List.mem_range, decide_eq_true_eq]
  constructor
  · rintro ⟨a, b, c⟩; exact ⟨b, a, c⟩
  · rintro ⟨a, b, c⟩; exact ⟨b, a, c⟩
theorem winO_ev {t : Tr} : winO t = evalT wrule (lv t.ends) t 0 0 := by rw [← win_O]; rfl
/-- a lot certifies if it meets every number of flips that turn the winner -/
theorem cert_parts {t : Tr} {c : List Nat} (w : t.wf) (h : c.Pairwise (· < ·)) (hn : ∀ x, x ∈ c → x < t.nl) : (∀ N, N ∈ parts t → 0 < N &&& maskN c) ↔ certO t (lotI c) = some (winO t) := by
  have hb := lv_bit (ends_bit w)
  have some_win : ∀ o, certO t (lotI c) = some o → o = winO t := fun o e => by
    have := cert_stays (es := t.ends) w e fun _ _ => rfl
    rw [win_O] at this; exact this.symm
  constructor
  · intro H
    cases e : certO t (lotI c) with
    | some o => rw [some_win o e]
    | none =>
      exfalso
      rw [← certW_O, certW_two (ends_bit w) w] at e
      split at e
      · cases e
      · rename_i ne
        have : ∃ r : Int, bit r ∧ evalT wrule (fillL t.ends (lotI c) r) t 0 0 ≠ winO t := by
          by_cases q : evalT wrule (fillL t.ends (lotI c) 0) t 0 0 = winO t
          · exact ⟨1, .inr rfl, fun q2 => ne (by rw [q, q2])⟩
          · exact ⟨0, .inl rfl, q⟩
        obtain ⟨r, hr, hne⟩ := this
        let bs := (List.range t.nl).map fun l => decide (fillL t.ends (lotI c) r l ≠ lv t.ends l)
        have bl : ∀ l, l < t.nl → natOf bs / 2 ^ l % 2 = if fillL t.ends (lotI c) r l ≠ lv t.ends l then 1 else 0 := fun l hl => by
          rw [natOf_bit, List.getD_eq_getElem?_getD]
          simp only [bs, List.getElem?_map, List.getElem?_range hl, Option.map_some, Option.getD_some, decide_eq_true_eq]
        have fb : ∀ l, bit (fillL t.ends (lotI c) r l) := fun l => by
          unfold fillL; split
          · exact hb l
          · exact hr
        have fl : ∀ l, l < t.nl → flipN t.ends (natOf bs) l = fillL t.ends (lotI c) r l := fun l hl => by
          have := bl l hl
          by_cases q : fillL t.ends (lotI c) r l = lv t.ends l
          · rw [if_neg (by simp [q])] at this
            rw [flipN_zero (hb l) this, q]
          · rw [if_pos q] at this
            rw [flipN_one (hb l) this]
            have h1 := hb l; have h2 := fb l
            unfold bit at h1 h2; omega
        have fw : fwin t (natOf bs) = evalT wrule (fillL t.ends (lotI c) r) t 0 0 := evalT_cg t 0 0 fun i _ hi => fl i (by omega)
        have mem : natOf bs ∈ parts t := by
          rw [parts_mem, fw]
          refine ⟨?_, by simpa [bs] using natOf_lt (bs := bs), hne⟩
          rcases Nat.eq_zero_or_pos (natOf bs) with z | z
          · exfalso
            apply hne
            rw [← fw, winO_ev]
            unfold fwin
            refine evalT_cg t 0 0 fun i _ _ => flipN_zero (hb i) (by rw [z]; simp)
          · exact z
        obtain ⟨l, h1, h2⟩ := and_pos.mp (H _ mem)
        rw [mask_bit h hn] at h2
        have hl : l ∈ c := by
          by_cases q : l ∈ c
          · exact q
          · rw [if_neg q] at h2; omega
        rw [bl l (hn l hl), if_neg] at h1
        · omega
        · unfold fillL
          rw [inLot_I]
          simp [hl]
  · intro e N hN
    rw [parts_mem] at hN
    rcases Nat.eq_zero_or_pos (N &&& maskN c) with z | z
    · exfalso
      apply hN.2.2
      have := cert_stays (es := (List.range t.nl).map (flipN t.ends N)) w e fun l hl => by
        rw [inLot_I] at hl
        have hl : l ∈ c := by simpa using hl
        have hln := hn l hl
        unfold lv
        rw [List.getD_eq_getElem?_getD, List.getElem?_map, List.getElem?_range hln]
        show flipN t.ends N l = lv t.ends l
        have : N / 2 ^ l % 2 = 0 := by
          by_cases q : N / 2 ^ l % 2 = 1
          · exfalso
            have := and_pos.mpr ⟨l, q, by rw [mask_bit h hn, if_pos hl]⟩
            omega
          · omega
        exact flipN_zero (hb l) this
      rw [← this]
      unfold fwin win
      refine evalT_cg t 0 0 fun i _ hi => ?_
      unfold lv
      rw [List.getD_eq_getElem?_getD, List.getElem?_map, List.getElem?_range (by omega)]; rfl
    · exact z
theorem pow_bit {x l : Nat} : 2 ^ x / 2 ^ l % 2 = if l = x then 1 else 0 := by
  have := mask_bit (c := [x]) (n := x + 1) (by simp) (by simp) l
  unfold maskN at this
  simpa using this
theorem piv_parts {t : Tr} {x : Nat} (w : t.wf) (hx : x < t.nl) : 2 ^ x ∈ parts t ↔ piv t x = true := by
  have hb := lv_bit (ends_bit w)
  have e : fwin t (2 ^ x) = evalO wrule (flipAt x) t 0 := by
    rw [← evalO_T0 (n := 0) noN_wrule]
    unfold fwin
    refine evalT_cg t 0 0 fun i _ _ => ?_
    unfold flipAt
    by_cases q : i = x
    · rw [if_pos q, flipN_one (hb i) (by rw [pow_bit, if_pos q])]
    · rw [if_neg q, flipN_zero (hb i) (by rw [pow_bit, if_neg q])]
  rw [parts_mem, e]
  unfold piv
  rw [decide_eq_true_eq]
  constructor
  · exact fun h => h.2.2
  · exact fun h => ⟨Nat.one_le_two_pow, Nat.pow_lt_pow_right (by omega) hx, h⟩
/-! ### all lots in order -/
def lotsL : Nat → Nat → List (List Nat)
  | 0, _ => [[]]
  | k + 1, s => [] :: ((lotsL k (s + 1)).map (s :: ·) ++ (lotsL k (s + 1)).tail)
theorem lotsL_cons : ∀ (k s : Nat), lotsL k s = [] :: (lotsL k s).tail
  | 0, _ => rfl
  | k + 1, s => by rw [lotsL]; rfl
def lotsF (k s : Nat) (i : Nat) : List (List Nat) := (List.range i).flatMap fun j => (lotsL (k - 1 - j) (s + j + 1)).map ((s + j) :: ·)
theorem lotsF_all : ∀ (k s : Nat), (lotsL k s).tail = lotsF k s k
  | 0, s => rfl
  | k + 1, s => by
    rw [lotsL, List.tail_cons, lotsF_all k (s + 1)]
    unfold lotsF
    rw [List.range_succ_eq_map, List.flatMap_cons, List.flatMap_map]
    congr 1
    unfold List.flatMap
    congr 1
    refine List.map_congr_left fun j hj => ?_
    have := List.mem_range.mp hj
    show _ = ((lotsL (k + 1 - 1 - (j + 1)) (s + (j + 1) + 1)).map ((s + (j + 1)) :: ·))
    rw [show k + 1 - 1 - (j + 1) = k - 1 - j by omega, show s + 1 + j + 1 = s + (j + 1) + 1 by omega, show s + 1 + j = s + (j + 1) by omega]
theorem lotsL_F (k s : Nat) : lotsL k s = [] :: lotsF k s k := by rw [lotsL_cons, lotsF_all]
theorem lotsF_snoc {k s i : Nat} : lotsF k s (i + 1) = lotsF k s i ++ (lotsL (k - 1 - i) (s + i + 1)).map ((s + i) :: ·) := by
  unfold lotsF
  rw [List.range_succ, List.flatMap_append, List.flatMap_singleton]
def lexlt : List Nat → List Nat → Prop
  | [], [] => False
  | [], _ :: _ => True
  | _ :: _, [] => False
  | a :: x, b :: y => a < b ∨ (a = b ∧ lexlt x y)
def lexle (x y : List Nat) : Prop := x = y ∨ lexlt x y
theorem lexlt_trans : ∀ {x y z : List Nat}, lexlt x y → lexlt y z → lexlt x z
  | [], [], z, h, _ => h.elim
  | [], b :: y, [], _, h => h.elim
  | [], b :: y, c :: z, _, _ => trivial
  | a :: x, [], z, h, _ => h.elim
  | a :: x, b :: y, [], _, h => h.elim
  | a :: x, b :: y, c :: z, h1, h2 => by
    simp only [lexlt] at h1 h2 ⊢
    rcases h1 with h1 | ⟨rfl, h1⟩
    · rcases h2 with h2 | ⟨rfl, h2⟩
      · exact .inl (by omega)
      · exact .inl h1
    · rcases h2 with h2 | ⟨rfl, h2⟩
      · exact .inl h2
      · exact .inr ⟨rfl, lexlt_trans h1 h2⟩
theorem lexlt_irr : ∀ {x : List Nat}, ¬ lexlt x x
  | [], h => h
  | a :: x, h => by
    simp only [lexlt] at h
    rcases h with h | ⟨_, h⟩
    · omega
    · exact lexlt_irr h
theorem lexle_trans {x y z : List Nat} (h1 : lexle x y) (h2 : lexle y z) : lexle x z := by
  rcases h1 with rfl | h1
  · exact h2
  · rcases h2 with rfl | h2
    · exact .inr h1
    · exact .inr (lexlt_trans h1 h2)
theorem lexle_app : ∀ {x y X Y : List Nat}, x.length = y.length → lexle x y → lexle X Y → lexle (x ++ X) (y ++ Y)
  | [], [], X, Y, _, _, h => h
  | [], b :: y, X, Y, h, _, _ => by simp at h
  | a :: x, [], X, Y, h, _, _ => by simp at h
  | a :: x, b :: y, X, Y, hl, h1, h2 => by
    rcases h1 with h1 | h1
    · cases h1
      rcases lexle_app (x := x) (y := x) rfl (.inl rfl) h2 with e | e
      · exact .inl (by rw [List.cons_append, List.cons_append, e])
      · exact .inr (.inr ⟨rfl, e⟩)
    · simp only [lexlt] at h1
      rcases h1 with h1 | ⟨rfl, h1⟩
      · exact .inr (.inl h1)
      · rcases lexle_app (x := x) (y := y) (by simpa using hl) (.inr h1) h2 with e | e
        · exact .inl (by rw [List.cons_append, List.cons_append, e])
        · exact .inr (.inr ⟨rfl, e⟩)
theorem lots_mem : ∀ {k s : Nat} {c : List Nat}, c ∈ lotsL k s ↔ c.Pairwise (· < ·) ∧ ∀ x, x ∈ c → s ≤ x ∧ x < s + k
  | 0, s, c => by
    rw [lotsL, List.mem_singleton]
    constructor
    · rintro rfl; simp
    · rintro ⟨_, h⟩
      cases c with
      | nil => rfl
      | cons a r => have := h a (by simp); omega
  | k + 1, s, c => by
    have ih := @lots_mem k (s + 1)
    rw [lotsL, List.mem_cons, List.mem_append, List.mem_map]
    have tl : c ∈ (lotsL k (s + 1)).tail ↔ c ≠ [] ∧ c ∈ lotsL k (s + 1) := by
      constructor
      · intro h
        refine ⟨?_, List.mem_of_mem_tail h⟩
        rintro rfl
        rw [lotsF_all] at h
        unfold lotsF at h
        obtain ⟨j, _, h⟩ := List.mem_flatMap.mp h
        obtain ⟨_, _, h⟩ := List.mem_map.mp h
        cases h
      · rintro ⟨h1, h2⟩
        rw [lotsL_cons] at h2
        rcases List.mem_cons.mp h2 with h | h
        · exact (h1 h).elim
        · exact h
    rw [tl, ih]
    constructor
    · rintro (rfl | ⟨d, hd, rfl⟩ | ⟨_, h1, h2⟩)
      · simp
      · obtain ⟨d1, d2⟩ := ih.mp hd
        refine ⟨List.pairwise_cons.mpr ⟨fun x hx => by have := d2 x hx; omega, d1⟩, fun x hx => ?_⟩
        rcases List.mem_cons.mp hx with rfl | hx
        · omega
        · have := d2 x hx; omega
      · exact ⟨h1, fun x hx => by have := h2 x hx; omega⟩
    · rintro ⟨h1, h2⟩
      cases c with
      | nil => exact .inl rfl
      | cons a r =>
        obtain ⟨r1, r2⟩ := List.pairwise_cons.mp h1
        right
        by_cases q : a = s
        · subst q
          exact .inl ⟨r, ih.mpr ⟨r2, fun x hx => by have := r1 x hx; have := h2 x (List.mem_cons_of_mem _ hx); omega⟩, rfl⟩
        · have ha := h2 a (by simp)
          refine .inr ⟨by simp, h1, fun x hx => ?_⟩
          rcases List.mem_cons.mp hx with rfl | hx
          · omega
          · have := r1 x hx; have := h2 x (List.mem_cons_of_mem _ hx); omega
theorem lots_lex : ∀ {k s : Nat}, (lotsL k s).Pairwise lexlt
  | 0, s => by simp [lotsL]
  | k + 1, s => by
    have ih := @lots_lex k (s + 1)
    have tailne : ∀ d, d ∈ (lotsL k (s + 1)).tail → ∃ b r, d = b :: r ∧ s < b := by
      intro d hd
      rw [lotsF_all] at hd
      unfold lotsF at hd
      obtain ⟨j, _, h⟩ := List.mem_flatMap.mp hd
      obtain ⟨r, _, rfl⟩ := List.mem_map.mp h
      exact ⟨_, r, rfl, by omega⟩
    rw [lotsL]
    refine List.pairwise_cons.mpr ⟨fun d hd => ?_, List.pairwise_append.mpr ⟨?_, ?_, fun a ha b hb => ?_⟩⟩
    · rcases List.mem_append.mp hd with h | h
      · obtain ⟨r, _, rfl⟩ := List.mem_map.mp h; trivial
      · obtain ⟨b, r, rfl, _⟩ := tailne d h; trivial
    · rw [List.pairwise_map]
      exact ih.imp fun h => .inr ⟨rfl, h⟩
    · exact ih.sublist (List.tail_sublist _)
    · obtain ⟨r, _, rfl⟩ := List.mem_map.mp ha
      obtain ⟨c, u, rfl, hc⟩ := tailne b hb
      exact .inl hc
end DU

set_option maxHeartbeats 4000000
namespace DU
open PySem PySem.Spec L2 DL
/-! ### the least certificate is the first of the least -/
theorem w3_cases {n : Nat} {s o : Int} {vs : List (Option Int)} (h : w3 n s vs = some o) : (o = s ∧ some s ∈ vs) ∨ (o = 1 - s ∧ ¬ some s ∈ vs ∧ ¬ none ∈ vs) := by
  unfold w3 at h
  split at h
  · rename_i c; exact .inl ⟨(Option.some.inj h).symm, c⟩
  · rename_i c
    split at h
    · cases h
    · rename_i c2; exact .inr ⟨(Option.some.inj h).symm, c, c2⟩
theorem evalOL_mem {α : Type} {f : Nat → Int → List α → α} {g : Nat → Int → α} {ts : List Tr} {l : Nat} {v : α} (h : v ∈ evalOL f g ts l) : ∃ i t, ts[i]? = some t ∧ v = evalO f g t (l + nlL (ts.take i)) := by
  obtain ⟨i, hi, rfl⟩ := List.getElem_of_mem h
  have e := List.getElem?_eq_getElem (show i < ts.length by rw [evalOL_len] at hi; exact hi)
  have := evalOL_at (f := f) (g := g) (l := l) e
  rw [List.getElem?_eq_getElem hi] at this
  exact ⟨i, _, e, by simpa using this⟩
theorem winO_nd {s : Int} {ts : List Tr} : winO (.nd s ts) = wrule 0 s (ts.map winO) := by
  unfold winO
  rw [evalO]
  congr 1
  apply List.ext_getElem?
  intro i
  rw [List.getElem?_map]
  cases e : ts[i]? with
  | none => rw [List.getElem?_eq_none (by rw [evalOL_len]; exact List.getElem?_eq_none_iff.mp e)]; rfl
  | some t => rw [evalOL_at e]; exact congrArg some winO_off
theorem w3O_holds (κ : Nat → Bool) : ∀ (m : Nat) (t : Tr) (l : Nat) (o : Int), t.ht ≤ m → evalO w3 (gk κ) t l = some o → winO t = o
  | m, .lf v, l, o, _, h => by
    rw [evalO] at h
    unfold gk at h
    split at h
    · cases h; unfold winO; rw [evalO]
    · cases h
  | 0, .nd s ts, l, o, hm, h => by rw [Tr.ht] at hm; omega
  | m + 1, .nd s ts, l, o, hm, h => by
    rw [evalO] at h
    rw [winO_nd]
    have at_ : ∀ i t v, ts[i]? = some t → evalO w3 (gk κ) t (l + nlL (ts.take i)) = some v → winO t = v := fun i t v e h => w3O_holds κ m t _ v (ht_mem e hm) h
    unfold wrule
    rcases w3_cases h with ⟨rfl, c⟩ | ⟨rfl, c1, c2⟩
    · obtain ⟨i, t, e, ev⟩ := evalOL_mem c
      rw [if_pos (List.mem_map.mpr ⟨t, List.mem_of_getElem? e, at_ i t o e ev.symm⟩)]
    · rw [if_neg]
      intro hmem
      obtain ⟨t, ht, et⟩ := List.mem_map.mp hmem
      obtain ⟨i, hi, rfl⟩ := List.getElem_of_mem ht
      have e := List.getElem?_eq_getElem hi
      have ev := evalOL_at (f := w3) (g := gk κ) (l := l) e
      cases q : evalO w3 (gk κ) ts[i] (l + nlL (ts.take i)) with
      | none => rw [q] at ev; exact c2 (List.mem_of_getElem? ev)
      | some v =>
        have := at_ i _ v e q
        rw [q] at ev
        have hv : v = s := by rw [← this, et]
        rw [hv] at ev
        exact c1 (List.mem_of_getElem? ev)
theorem firstMin : ∀ (ps : List (List Nat)), ps ≠ [] → ∃ (i : Nat) (c : List Nat), ps[i]? = some c ∧ (∀ (j : Nat) (y : List Nat), ps[j]? = some y → c.length ≤ y.length) ∧ ∀ (j : Nat) (y : List Nat), j < i → ps[j]? = some y → c.length < y.length
  | [], h => (h rfl).elim
  | [a], _ => ⟨0, a, rfl, fun j y h => by
      cases j with
      | zero => simp at h; subst h; omega
      | succ j => simp at h, fun j y hj _ => by omega⟩
  | a :: b :: r, _ => by
    obtain ⟨i, c, h1, h2, h3⟩ := firstMin (b :: r) (by simp)
    by_cases q : a.length ≤ c.length
    · refine ⟨0, a, rfl, fun j y h => ?_, fun j y hj _ => by omega⟩
      cases j with
      | zero => simp at h; subst h; omega
      | succ j => have := h2 j y (by simpa using h); omega
    · refine ⟨i + 1, c, by simpa using h1, fun j y h => ?_, fun j y hj h => ?_⟩
      · cases j with
        | zero => simp at h; subst h; omega
        | succ j => exact h2 j y (by simpa using h)
      · cases j with
        | zero => simp at h; subst h; omega
        | succ j => exact h3 j y (by omega) (by simpa using h)
theorem bestL_spec {ps : List (List Nat)} {c : List Nat} (h : bestL none ps = some c) : ∃ i : Nat, ps[i]? = some c ∧ (∀ (j : Nat) (y : List Nat), ps[j]? = some y → c.length ≤ y.length) ∧ ∀ (j : Nat) (y : List Nat), j < i → ps[j]? = some y → c.length < y.length := by
  have ne : ps ≠ [] := by rintro rfl; cases h
  obtain ⟨i, d, h1, h2, h3⟩ := firstMin ps ne
  have := bestL_first h1 h2 h3 (acc := none) (fun _ h => by cases h)
  rw [h] at this; cases this
  exact ⟨i, h1, h2, h3⟩
theorem cO_ne : ∀ (m : Nat) (t : Tr) (l : Nat), t.ht ≤ m → t.wf → (cO t l).2 ≠ []
  | m, .lf o, l, _, _ => by rw [cO_lf]; simp
  | 0, .nd s ts, l, hm, _ => by rw [Tr.ht] at hm; omega
  | m + 1, .nd s ts, l, hm, w => by
    simp only [Tr.wf] at w
    rw [cO_nd]
    rcases frule_cases 0 s (cOL ts l) with ⟨c, hc, e, _⟩ | ⟨_, e, _⟩
    · rw [e]
      obtain ⟨i, t, e1, e2⟩ := cOL_mem hc
      have := cO_ne m t (l + nlL (ts.take i)) (ht_mem e1 hm) (wfL_mem.mp w.2.2.2 _ (List.mem_of_getElem? e1))
      rw [← e2] at this; exact this
    · rw [e]
      cases ts with
      | nil => simp at w
      | cons t r =>
        have := cO_ne m t l (ht_mem (i := 0) rfl hm) (wfL_mem.mp w.2.2.2 t (by simp))
        have e : cOL (t :: r) l = cO t l :: cOL r (l + t.nl) := by unfold cOL cO; rw [evalOL]
        rw [e, List.map_cons, List.flatten_cons]
        intro z
        exact this (List.append_eq_nil_iff.mp z).1
theorem lexlt_below : ∀ {a b : List Nat}, a ≠ [] → b ≠ [] → (∀ x, x ∈ a → ∀ y, y ∈ b → x < y) → lexlt a b
  | [], _, h, _, _ => (h rfl).elim
  | _ :: _, [], _, h, _ => (h rfl).elim
  | x :: a, y :: b, _, _, h => .inl (h x (by simp) y (by simp))
theorem cOL_lex : ∀ {ts : List Tr} {l : Nat}, wfL ts → ((cOL ts l).map (·.2)).Pairwise lexlt
  | [], l, _ => by simp [cOL, evalOL]
  | t :: ts, l, w => by
    rw [wfL] at w
    have e : cOL (t :: ts) l = cO t l :: cOL ts (l + t.nl) := by unfold cOL cO; rw [evalOL]
    rw [e, List.map_cons]
    refine List.pairwise_cons.mpr ⟨fun d hd => ?_, cOL_lex w.2⟩
    obtain ⟨p, hp, rfl⟩ := List.mem_map.mp hd
    obtain ⟨i, u, e1, rfl⟩ := cOL_mem hp
    refine lexlt_below (cO_ne _ t l (Nat.le_refl _) w.1) (cO_ne _ u _ (Nat.le_refl _) (wfL_mem.mp w.2 _ (List.mem_of_getElem? e1))) fun x hx y hy => ?_
    have := cO_in _ t l (Nat.le_refl _) x hx
    have := cO_in _ u _ (Nat.le_refl _) y hy
    omega
/-- the known leaves of a stretch -/
def dl (κ : Nat → Bool) (l n : Nat) : List Nat := ((List.range n).filter fun i => κ (l + i)).map (l + ·)
def dlL (κ : Nat → Bool) : List Tr → Nat → List (List Nat)
  | [], _ => []
  | t :: ts, l => dl κ l t.nl :: dlL κ ts (l + t.nl)
theorem dl_app {κ : Nat → Bool} {l n m : Nat} : dl κ l (n + m) = dl κ l n ++ dl κ (l + n) m := by
  unfold dl
  rw [List.range_add, List.filter_append, List.map_append, List.filter_map, List.map_map]
  congr 1
  have e1 : ((fun i => κ (l + i)) ∘ fun x => n + x) = fun i => κ (l + n + i) := by funext i; simp only [Function.comp]; rw [Nat.add_assoc]
  have e2 : ((fun x => l + x) ∘ fun x => n + x) = fun x => l + n + x := by funext i; simp only [Function.comp]; rw [Nat.add_assoc]
  rw [e1, e2]
theorem dl_flat {κ : Nat → Bool} : ∀ {ts : List Tr} {l : Nat}, (dlL κ ts l).flatten = dl κ l (nlL ts)
  | [], l => by rw [nlL_nil]; rfl
  | t :: ts, l => by rw [dlL, List.flatten_cons, dl_flat, nlL_cons, dl_app]
theorem dlL_at {κ : Nat → Bool} : ∀ {ts : List Tr} {l i : Nat} {t : Tr}, ts[i]? = some t → (dlL κ ts l)[i]? = some (dl κ (l + nlL (ts.take i)) t.nl)
  | [], l, i, t, h => by simp at h
  | u :: ts, l, 0, t, h => by
    simp only [List.getElem?_cons_zero, Option.some.injEq] at h
    subst h
    simp [dlL, nlL_nil]
  | u :: ts, l, i + 1, t, h => by
    simp only [List.getElem?_cons_succ] at h
    rw [dlL, List.getElem?_cons_succ, dlL_at h, List.take_succ_cons, nlL_cons, Nat.add_assoc]
def Below (c d : List Nat) : Prop := c.length ≤ d.length ∧ (c.length = d.length → lexle c d)
inductive Blk : List (List Nat) → List (List Nat) → Prop
  | nil : Blk [] []
  | cons {c d : List Nat} {cs ds : List (List Nat)} : Below c d → Blk cs ds → Blk (c :: cs) (d :: ds)
theorem Blk.flat : ∀ {cs ds : List (List Nat)}, Blk cs ds → Below cs.flatten ds.flatten
  | _, _, .nil => ⟨Nat.le_refl _, fun _ => .inl rfl⟩
  | _, _, .cons h r => by
    obtain ⟨r1, r2⟩ := r.flat
    rw [List.flatten_cons, List.flatten_cons]
    refine ⟨by rw [List.length_append, List.length_append]; have := h.1; omega, fun e => ?_⟩
    rw [List.length_append, List.length_append] at e
    have := h.1
    exact lexle_app (by omega) (h.2 (by omega)) (r2 (by omega))
theorem blk_of {κ : Nat → Bool} : ∀ {ts : List Tr} {l : Nat}, (∀ i t, ts[i]? = some t → Below (cO t (l + nlL (ts.take i))).2 (dl κ (l + nlL (ts.take i)) t.nl)) → Blk ((cOL ts l).map (·.2)) (dlL κ ts l)
  | [], l, _ => by simp [cOL, evalOL, dlL]; exact .nil
  | t :: ts, l, h => by
    have e : cOL (t :: ts) l = cO t l :: cOL ts (l + t.nl) := by unfold cOL cO; rw [evalOL]
    have h0 := h 0 t rfl
    rw [List.take_zero, nlL_nil, Nat.add_zero] at h0
    rw [e, List.map_cons, dlL]
    refine .cons h0 (blk_of fun i u hu => ?_)
    have := h (i + 1) u (by simpa using hu)
    rw [List.take_succ_cons, nlL_cons, ← Nat.add_assoc] at this
    exact this
theorem flat_one : ∀ {L : List (List Nat)} {x : List Nat}, x ∈ L → x.length = L.flatten.length → L.flatten = x
  | [], x, h, _ => by cases h
  | a :: L, x, h, e => by
    rw [List.flatten_cons] at e ⊢
    rw [List.length_append] at e
    rcases List.mem_cons.mp h with rfl | h2
    · have : L.flatten = [] := List.length_eq_zero_iff.mp (by omega)
      rw [this, List.append_nil]
    · have hx : x.length ≤ L.flatten.length := by
        rw [List.length_flatten]
        have : x.length ∈ L.map List.length := List.mem_map.mpr ⟨x, h2, rfl⟩
        generalize L.map List.length = ns at this
        induction ns with
        | nil => cases this
        | cons n ns ih =>
          rw [List.sum_cons]
          rcases List.mem_cons.mp this with rfl | q
          · omega
          · have := ih q; omega
      have ha : a = [] := List.length_eq_zero_iff.mp (by omega)
      subst ha
      rw [List.nil_append]
      exact flat_one h2 (by simpa using e)
theorem flat_len : ∀ {L : List (List Nat)} {x : List Nat}, x ∈ L → x.length ≤ L.flatten.length
  | a :: L, x, h => by
    rw [List.flatten_cons, List.length_append]
    rcases List.mem_cons.mp h with rfl | h
    · omega
    · have := flat_len h; omega
theorem min_cert (κ : Nat → Bool) : ∀ (m : Nat) (t : Tr) (l : Nat), t.ht ≤ m → t.wf → (∃ o, evalO w3 (gk κ) t l = some o) → Below (cO t l).2 (dl κ l t.nl)
  | m, .lf o, l, _, _, ⟨v, h⟩ => by
    rw [evalO] at h
    unfold gk at h
    split at h
    · rename_i c
      have : dl κ l (Tr.lf o).nl = [l] := by
        rw [nl_lf]; unfold dl
        simp [c, List.range_succ]
      rw [this, cO_lf]
      exact ⟨Nat.le_refl _, fun _ => .inl rfl⟩
    · cases h
  | 0, .nd s ts, l, hm, _, _ => by rw [Tr.ht] at hm; omega
  | m + 1, .nd s ts, l, hm, w, ⟨v, h⟩ => by
    have w' := w
    simp only [Tr.wf] at w
    have hwin := w3O_holds κ _ _ l v hm h
    rw [evalO] at h
    rw [nl_nd, ← dl_flat]
    have ih : ∀ i t, ts[i]? = some t → (∃ o, evalO w3 (gk κ) t (l + nlL (ts.take i)) = some o) → Below (cO t (l + nlL (ts.take i))).2 (dl κ (l + nlL (ts.take i)) t.nl) := fun i t e h => min_cert κ m t _ (ht_mem e hm) (wfL_mem.mp w.2.2.2 _ (List.mem_of_getElem? e)) h
    have hwl : winO (.nd s ts) = (frule 0 s (cOL ts l)).1 := by rw [← cO_nd, cO_fst]
    rw [cO_nd]
    rcases frule_cases 0 s (cOL ts l) with ⟨c, hc, e, hb⟩ | ⟨hno, e, _⟩
    · rw [e] at hwl ⊢
      have hv : v = s := by rw [← hwin, hwl]
      subst hv
      obtain ⟨j, t, ej, evj⟩ : ∃ j t, ts[j]? = some t ∧ some v = evalO w3 (gk κ) t (l + nlL (ts.take j)) := by
        rcases w3_cases h with ⟨_, c⟩ | ⟨h1, _, _⟩
        · exact evalOL_mem c
        · omega
      have hj := ih j t ej ⟨v, evj.symm⟩
      have wj := w3O_holds κ _ t _ v (Nat.le_refl _) evj.symm
      have cj := cOL_at (l := l) ej
      have lj : (cO t (l + nlL (ts.take j))).2 ∈ lotsOf v (cOL ts l) := lotsOf_mem.mpr (by
        have : (v, (cO t (l + nlL (ts.take j))).2) = cO t (l + nlL (ts.take j)) := by rw [← wj, ← cO_fst (l := l + nlL (ts.take j))]
        rw [this]; exact List.mem_of_getElem? cj)
      obtain ⟨ic, h1, h2, h3⟩ := bestL_spec hb
      obtain ⟨pj, hpj, epj⟩ := List.getElem_of_mem lj
      have gpj := List.getElem?_eq_getElem hpj
      rw [epj] at gpj
      have hle := h2 pj _ gpj
      have lex : (lotsOf v (cOL ts l)).Pairwise lexlt := by
        have := cOL_lex (ts := ts) (l := l) w.2.2.2
        unfold lotsOf
        exact this.sublist (List.Sublist.map _ List.filter_sublist)
      have dj := List.mem_of_getElem? (dlL_at (κ := κ) (l := l) ej)
      have ld := flat_len dj
      refine ⟨by show c.length ≤ _; have := hj.1; omega, fun eq => ?_⟩
      have eq : c.length = (dlL κ ts l).flatten.length := eq
      have hj1 := hj.1
      have l1 : (cO t (l + nlL (ts.take j))).2.length = c.length := by omega
      have fo := flat_one dj (by omega)
      rw [fo]
      refine lexle_trans ?_ (hj.2 (by omega))
      by_cases q : ic = pj
      · subst q
        rw [h1] at gpj
        exact .inl (Option.some.inj gpj)
      · have : ic < pj := by
          rcases Nat.lt_or_gt_of_ne q with z | z
          · exact z
          · have := h3 pj _ z gpj; omega
        obtain ⟨hic, eic⟩ := List.getElem?_eq_some_iff.mp h1
        have := List.pairwise_iff_getElem.mp lex ic pj hic hpj this
        rw [eic, epj] at this
        exact .inr this
    · rw [e] at hwl ⊢
      have hv : v = 1 - s := by rw [← hwin, hwl]
      rcases w3_cases h with ⟨h1, _⟩ | ⟨_, c1, c2⟩
      · omega
      refine (blk_of fun i t ei => ih i t ei ?_).flat
      have ev := evalOL_at (f := w3) (g := gk κ) (l := l) ei
      cases q : evalO w3 (gk κ) t (l + nlL (ts.take i)) with
      | none => rw [q] at ev; exact (c2 (List.mem_of_getElem? ev)).elim
      | some o => exact ⟨o, rfl⟩
/-- no lot that certifies has fewer leaves, and none with as many comes before -/
theorem cert_first {t : Tr} {c : List Nat} (w : t.wf) (h : c.Pairwise (· < ·)) (hn : ∀ x, x ∈ c → x < t.nl) (hc : certO t (lotI c) = some (winO t)) : Below (cO t 0).2 c := by
  have := min_cert (inLot (lotI c)) t.ht t 0 (Nat.le_refl _) w ⟨_, hc⟩
  have e : dl (inLot (lotI c)) 0 t.nl = c := by
    unfold dl
    have e2 : (fun i => inLot (lotI c) (0 + i)) = fun x => decide (x ∈ c) := by funext i; rw [Nat.zero_add, inLot_I]
    rw [e2, ← asc_filter h hn]
    have : (fun x => 0 + x) = (id : Nat → Nat) := by funext x; simp
    rw [this, List.map_id]
  rw [e] at this; exact this
/-! ### pivots of a node -/
def pg (ts : List Tr) (j : Nat) : Tr := ts.getD j (.lf 0)
def SG (ts : List Tr) : Nat → Nat
  | 0 => 0
  | k + 1 => SG ts k + (pg ts k).nl
theorem pg_at {ts : List Tr} {j : Nat} {t : Tr} (h : ts[j]? = some t) : pg ts j = t := by unfold pg; rw [List.getD_eq_getElem?_getD, h]; rfl
theorem SG_take {ts : List Tr} : ∀ {k : Nat}, k ≤ ts.length → SG ts k = nlL (ts.take k)
  | 0, _ => by simp [SG, nlL_nil]
  | k + 1, h => by
    have e := List.getElem?_eq_getElem (show k < ts.length by omega)
    rw [SG, SG_take (by omega), pg_at e, List.take_add_one, e, nlL_app]
    simp [nlL_cons, nlL_nil]
def lfs (ws : List Int) : List Tr := ws.map Tr.lf
theorem lfs_nl : ∀ {ws : List Int}, nlL (lfs ws) = ws.length
  | [] => nlL_nil
  | w :: ws => by show nlL (Tr.lf w :: lfs ws) = _; rw [nlL_cons, lfs_nl, nl_lf, List.length_cons]; omega
theorem gr_lfs {P : Nat → Tr} : ∀ {ws : List Int} {k : Nat}, grL P (lfs ws) k = (List.range ws.length).map fun i => P (k + i)
  | [], k => by simp [lfs, grL]
  | w :: ws, k => by
    show grL P (Tr.lf w :: lfs ws) k = _
    rw [grL, Tr.gr, nl_lf, gr_lfs, List.length_cons, List.range_succ_eq_map, List.map_cons, List.map_map]
    congr 1
    refine List.map_congr_left fun i _ => ?_
    show P (k + 1 + i) = P (k + (i + 1))
    congr 1; omega
theorem lfs_pg {ts : List Tr} : (List.range ts.length).map (fun i => pg ts (0 + i)) = ts := by
  apply List.ext_getElem?
  intro i
  rw [List.getElem?_map]
  by_cases c : i < ts.length
  · rw [List.getElem?_range c]
    simp only [Option.map_some, Nat.zero_add]
    rw [pg_at (List.getElem?_eq_getElem c), List.getElem?_eq_getElem c]
  · rw [List.getElem?_eq_none (by simpa using c), List.getElem?_eq_none (by simpa using c)]; rfl
def okD (s : Int) (ws : List Int) (k : Nat) : Bool := !((ws.take k ++ ws.drop (k + 1)).any fun v => decide (v = s))
theorem evalOL_lfs {g : Nat → Int → Int} : ∀ {ws : List Int} {l : Nat}, evalOL wrule g (lfs ws) l = (List.range ws.length).map fun i => g (l + i) (lv ws i)
  | [], l => by simp [lfs, evalOL]
  | w :: ws, l => by
    show evalOL wrule g (Tr.lf w :: lfs ws) l = _
    rw [evalOL, evalO, nl_lf, evalOL_lfs, List.length_cons, List.range_succ_eq_map, List.map_cons, List.map_map]
    congr 1
    refine List.map_congr_left fun i _ => ?_
    show g (l + 1 + i) (lv ws i) = g (l + (i + 1)) (lv (w :: ws) (i + 1))
    rw [show l + 1 + i = l + (i + 1) by omega]
    rfl
theorem lv_range {ws : List Int} : (List.range ws.length).map (lv ws) = ws := by
  apply List.ext_getElem?
  intro i
  rw [List.getElem?_map]
  by_cases c : i < ws.length
  · rw [List.getElem?_range c]
    unfold lv
    simp only [Option.map_some]
    rw [List.getD_eq_getElem?_getD, List.getElem?_eq_getElem c]; rfl
  · rw [List.getElem?_eq_none (by simpa using c), List.getElem?_eq_none (by simpa using c)]; rfl
theorem flip_range {ws : List Int} {k : Nat} (hk : k < ws.length) : (List.range ws.length).map (fun i => flipAt k (0 + i) (lv ws i)) = ws.set k (1 - lv ws k) := by
  apply List.ext_getElem?
  intro i
  rw [List.getElem?_map]
  by_cases c : i < ws.length
  · rw [List.getElem?_range c]
    unfold flipAt
    by_cases q : k = i
    · subst q
      rw [List.getElem?_set_self c]; simp
    · rw [List.getElem?_set_ne q]
      have : ¬ 0 + i = k := by omega
      simp only [Option.map_some, this, if_false]
      unfold lv
      rw [List.getD_eq_getElem?_getD, List.getElem?_eq_getElem c]; rfl
  · rw [List.getElem?_eq_none (by simpa using c), List.getElem?_eq_none (by simpa using c)]; rfl
theorem piv_flat {s : Int} {ws : List Int} {k : Nat} (hs : bit s) (hw : ∀ x, x ∈ ws → bit x) (hk : k < ws.length) : piv (.nd s (lfs ws)) k = okD s ws k := by
  have e1 : evalO wrule (flipAt k) (.nd s (lfs ws)) 0 = wrule 0 s (ws.set k (1 - lv ws k)) := by rw [evalO, evalOL_lfs, flip_range hk]
  have e2 : winO (.nd s (lfs ws)) = wrule 0 s ws := by
    rw [winO_nd]
    congr 1
    unfold lfs
    rw [List.map_map]
    have : winO ∘ Tr.lf = id := by funext o; show winO (.lf o) = o; unfold winO; rw [evalO]
    rw [this, List.map_id]
  have eg : lv ws k = ws[k] := by unfold lv; rw [List.getD_eq_getElem?_getD, List.getElem?_eq_getElem hk]; rfl
  have d1 : ws = ws.take k ++ ws[k] :: ws.drop (k + 1) := by rw [← List.drop_eq_getElem_cons hk, List.take_append_drop]
  have d2 : ws.set k (1 - lv ws k) = ws.take k ++ (1 - lv ws k) :: ws.drop (k + 1) := by rw [List.set_eq_take_append_cons_drop, if_pos hk]
  have bk : bit (lv ws k) := by rw [eg]; exact hw _ (List.getElem_mem hk)
  have m1 : s ∈ ws ↔ s = lv ws k ∨ s ∈ ws.take k ++ ws.drop (k + 1) := by
    conv => lhs; rw [d1]
    rw [List.mem_append, List.mem_cons, List.mem_append, eg]
    constructor
    · rintro (h | h | h)
      · exact .inr (.inl h)
      · exact .inl h
      · exact .inr (.inr h)
    · rintro (h | h | h)
      · exact .inr (.inl h)
      · exact .inl h
      · exact .inr (.inr h)
  have m2 : s ∈ ws.set k (1 - lv ws k) ↔ s = 1 - lv ws k ∨ s ∈ ws.take k ++ ws.drop (k + 1) := by
    rw [d2, List.mem_append, List.mem_cons, List.mem_append]
    constructor
    · rintro (h | h | h)
      · exact .inr (.inl h)
      · exact .inl h
      · exact .inr (.inr h)
    · rintro (h | h | h)
      · exact .inr (.inl h)
      · exact .inl h
      · exact .inr (.inr h)
  have eo : okD s ws k = !decide (s ∈ ws.take k ++ ws.drop (k + 1)) := by
    unfold okD
    congr 1
    rw [Bool.eq_iff_iff, List.any_eq_true, decide_eq_true_eq]
    constructor
    · rintro ⟨x, hx, h⟩
      have : x = s := by simpa using h
      rw [← this]; exact hx
    · intro h; exact ⟨s, h, by simp⟩
  unfold piv
  rw [e1, e2, eo]
  unfold wrule
  unfold bit at hs bk
  by_cases c : s ∈ ws.take k ++ ws.drop (k + 1)
  · rw [if_pos (m1.mpr (.inr c)), if_pos (m2.mpr (.inr c))]
    simp [c]
  · by_cases q : s = lv ws k
    · rw [if_pos (m1.mpr (.inl q)), if_neg (fun z => by rcases m2.mp z with z | z; omega; exact c z)]
      have : 1 - s ≠ s := by omega
      simp [c, this]
    · have q2 : s = 1 - lv ws k := by omega
      rw [if_neg (show ¬ s ∈ ws from fun z => by rcases m1.mp z with z | z; exact q z; exact c z), if_pos (m2.mpr (.inl q2))]
      have : s ≠ 1 - s := by omega
      simp [c, this]
theorem pivs_node {s : Int} {ts : List Tr} (w : (Tr.nd s ts).wf) : pivs (.nd s ts) = ((List.range ts.length).filter (okD s (ts.map winO))).flatMap fun k => (pivs (pg ts k)).map (nlL (ts.take k) + ·) := by
  simp only [Tr.wf] at w
  have bw : ∀ x, x ∈ ts.map winO → bit x := fun x hx => by
    obtain ⟨t, ht, rfl⟩ := List.mem_map.mp hx
    exact winO_bit (wfL_mem.mp w.2.2.2 t ht)
  have hl : (ts.map winO).length = ts.length := List.length_map ..
  let top : Tr := .nd s (lfs (ts.map winO))
  have ltop : top.nl = ts.length := by show (Tr.nd s (lfs (ts.map winO))).nl = _; rw [nl_nd, lfs_nl, hl]
  have eG : top.gr (pg ts) 0 = .nd s ts := by
    show (Tr.nd s (lfs (ts.map winO))).gr (pg ts) 0 = _
    rw [Tr.gr, gr_lfs, hl, lfs_pg]
  have eO : outer (pg ts) top.nl = ts.map winO := by
    rw [ltop]
    unfold outer
    apply List.ext_getElem?
    intro i
    rw [List.getElem?_map, List.getElem?_map]
    by_cases c : i < ts.length
    · rw [List.getElem?_range c, List.getElem?_eq_getElem c]
      simp only [Option.map_some]
      rw [pg_at (List.getElem?_eq_getElem c)]
    · rw [List.getElem?_eq_none (by simpa using c), List.getElem?_eq_none (by simpa using c)]; rfl
  have reL_lfs : ∀ (ws es : List Int) (l : Nat), (∀ i, i < ws.length → lv es (l + i) = lv ws i) → reL es (lfs ws) l = lfs ws := by
    intro ws
    induction ws with
    | nil => intro es l _; simp [lfs, reL]
    | cons a ws ih =>
      intro es l h
      show reL es (Tr.lf a :: lfs ws) l = Tr.lf a :: lfs ws
      rw [reL, Tr.re, nl_lf]
      have h0 := h 0 (by simp)
      rw [Nat.add_zero] at h0
      rw [h0, ih es (l + 1) fun i hi => by
        have := h (i + 1) (by simpa using hi)
        rw [Nat.add_assoc, Nat.add_comm 1 i]; exact this]
      rfl
  have eR : top.re (ts.map winO) 0 = top := by
    show (Tr.nd s (lfs (ts.map winO))).re (ts.map winO) 0 = Tr.nd s (lfs (ts.map winO))
    rw [Tr.re, reL_lfs _ _ 0 fun i _ => by rw [Nat.zero_add]]
  have key := gr_pivs (P := pg ts) (S := SG ts) (top := top) (fun _ => rfl) rfl fun j hj => by
    rw [ltop] at hj
    rw [pg_at (List.getElem?_eq_getElem hj)]
    exact wfL_mem.mp w.2.2.2 _ (List.getElem_mem hj)
  rw [eG, eO, eR] at key
  rw [key]
  have ep : pivs top = (List.range ts.length).filter (okD s (ts.map winO)) := by
    unfold pivs
    rw [ltop]
    exact List.filter_congr fun k hk => piv_flat w.1 bw (by rw [hl]; exact List.mem_range.mp hk)
  rw [ep]
  unfold List.flatMap
  congr 1
  refine List.map_congr_left fun k hk => ?_
  have := List.mem_range.mp (List.mem_filter.mp hk).1
  rw [SG_take (by omega)]
end DU

set_option maxHeartbeats 4000000
namespace K44
open PySem PySem.Spec L2 DL
/-! ### the text by places -/
def top (i : Nat) : Stmt := PySem.Challenge.pw_proofchoosers_k44_least_certificates.main.body.getD i (.Pass ⟨0, 0, 0, 0⟩)
/-- the addresses of the classes -/
structure Adr where
  (ProofsError InvalidText InvalidTerm InvalidDuel OutOfRange SizeMismatch TooLarge InvalidPlan Duel : Addr)
/-- what the written part says of the names -/
structure Txt (w : World) (K : PySem.W.Frag) (mg : Str → Option Value) (A : Adr) : Prop where
  n_all : mg "all" = none
  n_any : mg "any" = none
  n_bool : mg "bool" = none
  n_int : mg "int" = none
  n_isinstance : mg "isinstance" = none
  n_len : mg "len" = none
  n_list : mg "list" = none
  n_min : mg "min" = none
  n_range : mg "range" = none
  n_str : mg "str" = none
  n_sum : mg "sum" = none
  n_tuple : mg "tuple" = none
  n_zip : mg "zip" = none
  m_ProofsError : mg "ProofsError" = some (.ref A.ProofsError)
  m_InvalidText : mg "InvalidText" = some (.ref A.InvalidText)
  m_InvalidTerm : mg "InvalidTerm" = some (.ref A.InvalidTerm)
  m_InvalidDuel : mg "InvalidDuel" = some (.ref A.InvalidDuel)
  m_OutOfRange : mg "OutOfRange" = some (.ref A.OutOfRange)
  m_SizeMismatch : mg "SizeMismatch" = some (.ref A.SizeMismatch)
  m_TooLarge : mg "TooLarge" = some (.ref A.TooLarge)
  m_InvalidPlan : mg "InvalidPlan" = some (.ref A.InvalidPlan)
  x_OutOfRange : ExcK K mg "OutOfRange" A.OutOfRange
  x_TooLarge : ExcK K mg "TooLarge" A.TooLarge
  m_Duel : mg "Duel" = some (.ref A.Duel)
  i_Duel : InsK K A.Duel
  d_Duel_root : FldK K A.Duel "root"
  d_Duel_tree : FldK K A.Duel "tree"
  d_Duel_ends : FldK K A.Duel "ends"
  d_Duel_sides : FldK K A.Duel "sides"
  d_Duel_children : FldK K A.Duel "children"
  c_MOST_DEPTH : ∃ t : Tok, mg "MOST_DEPTH" = some (.int 200 t)
  c_MOST_DIGITS : ∃ t : Tok, mg "MOST_DIGITS" = some (.int 9 t)
  c_MOST_LETTERS : ∃ t : Tok, mg "MOST_LETTERS" = some (.int 12 t)
  c_MOST_NUMBER : ∃ t : Tok, mg "MOST_NUMBER" = some (.int 999999999 t)
  c_MOST_TREES : ∃ t : Tok, mg "MOST_TREES" = some (.int 12 t)
  cst_Duel_MOST_LEAVES : CstK K A.Duel "MOST_LEAVES" (.int 200)
  cst_Duel_MOST_LEVELS : CstK K A.Duel "MOST_LEVELS" (.int 20)
  cst_Duel_MOST_NODES : CstK K A.Duel "MOST_NODES" (.int 200)
abbrev s_wall : Stmt := top 0
abbrev N_wall : List Str := ["k"]
abbrev P_wall : List Str := ["k"]
theorem sc_wall : FnScope N_wall P_wall (defScope s_wall) := C8.fnScope_by (by decide +kernel)
abbrev s_is_word : Stmt := top 17
abbrev N_is_word : List Str := ["item", "sign"]
abbrev P_is_word : List Str := ["item"]
theorem sc_is_word : FnScope N_is_word P_is_word (defScope s_is_word) := C8.fnScope_by (by decide +kernel)
abbrev s_is_number : Stmt := top 18
abbrev N_is_number : List Str := ["item"]
abbrev P_is_number : List Str := ["item"]
theorem sc_is_number : FnScope N_is_number P_is_number (defScope s_is_number) := C8.fnScope_by (by decide +kernel)
abbrev s_write_part : Stmt := top 19
abbrev N_write_part : List Str := ["term", "path", "texts", "k"]
abbrev P_write_part : List Str := ["term", "path"]
theorem sc_write_part : FnScope N_write_part P_write_part (defScope s_write_part) := C8.fnScope_by (by decide +kernel)
abbrev s_write_term : Stmt := top 20
abbrev N_write_term : List Str := ["term"]
abbrev P_write_term : List Str := ["term"]
theorem sc_write_term : FnScope N_write_term P_write_term (defScope s_write_term) := C8.fnScope_by (by decide +kernel)
abbrev s_atom_end : Stmt := top 21
abbrev N_atom_end : List Str := ["text", "start", "signs", "most", "end"]
abbrev P_atom_end : List Str := ["text", "start"]
theorem sc_atom_end : FnScope N_atom_end P_atom_end (defScope s_atom_end) := C8.fnScope_by (by decide +kernel)
abbrev s_atom : Stmt := top 22
abbrev N_atom : List Str := ["text"]
abbrev P_atom : List Str := ["text"]
theorem sc_atom : FnScope N_atom P_atom (defScope s_atom) := C8.fnScope_by (by decide +kernel)
abbrev s_whole : Stmt := top 23
abbrev N_whole : List Str := ["item", "text", "at"]
abbrev P_whole : List Str := ["item", "text", "at"]
theorem sc_whole : FnScope N_whole P_whole (defScope s_whole) := C8.fnScope_by (by decide +kernel)
abbrev s_read_term : Stmt := top 24
abbrev N_read_term : List Str := ["text", "lists", "at", "end", "item"]
abbrev P_read_term : List Str := ["text"]
theorem sc_read_term : FnScope N_read_term P_read_term (defScope s_read_term) := C8.fnScope_by (by decide +kernel)
abbrev s_Duel_init : Stmt := inClass (top 27) 3
abbrev N_Duel_init : List Str := ["self", "tree", "sides", "children", "ends"]
abbrev P_Duel_init : List Str := ["self", "tree"]
theorem sc_Duel_init : FnScope N_Duel_init P_Duel_init (defScope s_Duel_init) := C8.fnScope_by (by decide +kernel)
abbrev s_Duel_with_ends : Stmt := inClass (top 27) 4
abbrev N_Duel_with_ends : List Str := ["self", "ends"]
abbrev P_Duel_with_ends : List Str := ["self", "ends"]
theorem sc_Duel_with_ends : FnScope N_Duel_with_ends P_Duel_with_ends (defScope s_Duel_with_ends) := C8.fnScope_by (by decide +kernel)
abbrev s_Duel_text : Stmt := inClass (top 27) 5
abbrev N_Duel_text : List Str := ["self"]
abbrev P_Duel_text : List Str := ["self"]
theorem sc_Duel_text : FnScope N_Duel_text P_Duel_text (defScope s_Duel_text) := C8.fnScope_by (by decide +kernel)
abbrev s_Duel_read : Stmt := inClass (top 27) 6
abbrev N_Duel_read : List Str := ["text", "term"]
abbrev P_Duel_read : List Str := ["text"]
theorem sc_Duel_read : FnScope N_Duel_read P_Duel_read (defScope s_Duel_read) := C8.fnScope_by (by decide +kernel)
abbrev s_is_outcome : Stmt := top 28
abbrev N_is_outcome : List Str := ["item"]
abbrev P_is_outcome : List Str := ["item"]
theorem sc_is_outcome : FnScope N_is_outcome P_is_outcome (defScope s_is_outcome) := C8.fnScope_by (by decide +kernel)
abbrev s_check_tree : Stmt := top 29
abbrev N_check_tree : List Str := ["tree", "path", "levels"]
abbrev P_check_tree : List Str := ["tree", "path", "levels"]
theorem sc_check_tree : FnScope N_check_tree P_check_tree (defScope s_check_tree) := C8.fnScope_by (by decide +kernel)
abbrev s_scan_tree : Stmt := top 30
abbrev N_scan_tree : List Str := ["tree", "path", "levels", "lists", "sides", "children", "ends", "index", "behind", "k"]
abbrev P_scan_tree : List Str := ["tree", "path", "levels", "lists"]
theorem sc_scan_tree : FnScope N_scan_tree P_scan_tree (defScope s_scan_tree) := C8.fnScope_by (by decide +kernel)
abbrev s_swapped_tree : Stmt := top 31
abbrev N_swapped_tree : List Str := ["tree", "inner"]
abbrev P_swapped_tree : List Str := ["tree"]
theorem sc_swapped_tree : FnScope N_swapped_tree P_swapped_tree (defScope s_swapped_tree) := C8.fnScope_by (by decide +kernel)
abbrev s_swapped : Stmt := top 32
abbrev N_swapped : List Str := ["duel"]
abbrev P_swapped : List Str := ["duel"]
theorem sc_swapped : FnScope N_swapped P_swapped (defScope s_swapped) := C8.fnScope_by (by decide +kernel)
abbrev s_entry_of : Stmt := top 33
abbrev N_entry_of : List Str := ["child", "at_nodes", "at_leaves", "kind", "number"]
abbrev P_entry_of : List Str := ["child", "at_nodes", "at_leaves"]
theorem sc_entry_of : FnScope N_entry_of P_entry_of (defScope s_entry_of) := C8.fnScope_by (by decide +kernel)
abbrev s_winners_with : Stmt := top 34
abbrev N_winners_with : List Str := ["duel", "ends", "winners", "index", "side", "behind", "_", "child"]
abbrev P_winners_with : List Str := ["duel", "ends"]
theorem sc_winners_with : FnScope N_winners_with P_winners_with (defScope s_winners_with) := C8.fnScope_by (by decide +kernel)
abbrev s_winner : Stmt := top 35
abbrev N_winner : List Str := ["duel"]
abbrev P_winner : List Str := ["duel"]
theorem sc_winner : FnScope N_winner P_winner (defScope s_winner) := C8.fnScope_by (by decide +kernel)
abbrev s_require_leaves : Stmt := top 37
abbrev N_require_leaves : List Str := ["duel", "leaves", "k"]
abbrev P_require_leaves : List Str := ["duel", "leaves"]
theorem sc_require_leaves : FnScope N_require_leaves P_require_leaves (defScope s_require_leaves) := C8.fnScope_by (by decide +kernel)
abbrev s_certified_outcome : Stmt := top 38
abbrev N_certified_outcome : List Str := ["duel", "leaves", "ends", "leaf", "_"]
abbrev P_certified_outcome : List Str := ["duel", "leaves"]
theorem sc_certified_outcome : FnScope N_certified_outcome P_certified_outcome (defScope s_certified_outcome) := C8.fnScope_by (by decide +kernel)
abbrev s_least_certificate : Stmt := top 39
abbrev N_least_certificate : List Str := ["duel", "winners", "single", "lots", "index", "children", "behind", "won", "leaf", "_", "child", "lot", "fits"]
abbrev P_least_certificate : List Str := ["duel"]
theorem sc_least_certificate : FnScope N_least_certificate P_least_certificate (defScope s_least_certificate) := C8.fnScope_by (by decide +kernel)
abbrev s_pivot_leaves : Stmt := top 40
abbrev N_pivot_leaves : List Str := ["duel", "outcome", "pivots", "leaf", "ends"]
abbrev P_pivot_leaves : List Str := ["duel"]
theorem sc_pivot_leaves : FnScope N_pivot_leaves P_pivot_leaves (defScope s_pivot_leaves) := C8.fnScope_by (by decide +kernel)
abbrev s_law_start : Stmt := top 42
abbrev N_law_start : List Str := ["script", "seed", "k"]
abbrev P_law_start : List Str := ["script"]
theorem sc_law_start : FnScope N_law_start P_law_start (defScope s_law_start) := C8.fnScope_by (by decide +kernel)
abbrev s_law_pick : Stmt := top 43
abbrev N_law_pick : List Str := ["state", "limit", "rest", "cell", "mixed"]
abbrev P_law_pick : List Str := ["state", "limit"]
theorem sc_law_pick : FnScope N_law_pick P_law_pick (defScope s_law_pick) := C8.fnScope_by (by decide +kernel)
abbrev s_law_same : Stmt := top 44
abbrev N_law_same : List Str := ["actual", "due", "p"]
abbrev P_law_same : List Str := ["actual", "due"]
theorem sc_law_same : FnScope N_law_same P_law_same (defScope s_law_same) := C8.fnScope_by (by decide +kernel)
abbrev s_law_tree : Stmt := top 45
abbrev N_law_tree : List Str := ["state", "levels", "room", "many", "trees", "k", "deeper"]
abbrev P_law_tree : List Str := ["state", "levels", "room"]
theorem sc_law_tree : FnScope N_law_tree P_law_tree (defScope s_law_tree) := C8.fnScope_by (by decide +kernel)
abbrev s_law_scan : Stmt := top 46
abbrev N_law_scan : List Str := ["tree", "nodes", "ends", "options", "at", "inner"]
abbrev P_law_scan : List Str := ["tree", "nodes", "ends"]
theorem sc_law_scan : FnScope N_law_scan P_law_scan (defScope s_law_scan) := C8.fnScope_by (by decide +kernel)
abbrev s_law_at : Stmt := top 47
abbrev N_law_at : List Str := ["child", "winners", "ends"]
abbrev P_law_at : List Str := ["child", "winners", "ends"]
theorem sc_law_at : FnScope N_law_at P_law_at (defScope s_law_at) := C8.fnScope_by (by decide +kernel)
abbrev s_law_winners : Stmt := top 48
abbrev N_law_winners : List Str := ["nodes", "ends", "winners", "k", "at", "side", "behind", "node", "child"]
abbrev P_law_winners : List Str := ["nodes", "ends"]
theorem sc_law_winners : FnScope N_law_winners P_law_winners (defScope s_law_winners) := C8.fnScope_by (by decide +kernel)
abbrev s_law_lots : Stmt := top 49
abbrev N_law_lots : List Str := ["start", "many", "lots", "leaf", "lot"]
abbrev P_law_lots : List Str := ["start", "many"]
theorem sc_law_lots : FnScope N_law_lots P_law_lots (defScope s_law_lots) := C8.fnScope_by (by decide +kernel)
abbrev s_law_parting : Stmt := top 50
abbrev N_law_parting : List Str := ["nodes", "root", "ends", "powers", "outcome", "found", "number", "other", "leaf"]
abbrev P_law_parting : List Str := ["nodes", "root", "ends"]
theorem sc_law_parting : FnScope N_law_parting P_law_parting (defScope s_law_parting) := C8.fnScope_by (by decide +kernel)
abbrev s_law_certifies : Stmt := top 51
abbrev N_law_certifies : List Str := ["lot", "parting", "powers", "mask", "leaf", "number"]
abbrev P_law_certifies : List Str := ["lot", "parting"]
theorem sc_law_certifies : FnScope N_law_certifies P_law_certifies (defScope s_law_certifies) := C8.fnScope_by (by decide +kernel)
abbrev s_law_small : Stmt := top 52
abbrev N_law_small : List Str := ["duel", "nodes", "root", "ends", "outcome", "parting", "least", "lot", "certified", "pivots", "leaf"]
abbrev P_law_small : List Str := ["duel", "nodes", "root", "ends"]
theorem sc_law_small : FnScope N_law_small P_law_small (defScope s_law_small) := C8.fnScope_by (by decide +kernel)
abbrev s_law_fewest : Stmt := top 53
abbrev N_law_fewest : List Str := ["tree", "start", "parts", "many", "inner", "part", "best", "joined"]
abbrev P_law_fewest : List Str := ["tree", "start"]
theorem sc_law_fewest : FnScope N_law_fewest P_law_fewest (defScope s_law_fewest) := C8.fnScope_by (by decide +kernel)
abbrev s_law_two : Stmt := top 54
abbrev N_law_two : List Str := ["nodes", "root", "ends", "lot", "kept", "leaf", "told", "rest", "other"]
abbrev P_law_two : List Str := ["nodes", "root", "ends", "lot"]
theorem sc_law_two : FnScope N_law_two P_law_two (defScope s_law_two) := C8.fnScope_by (by decide +kernel)
abbrev s_law_deciding : Stmt := top 55
abbrev N_law_deciding : List Str := ["nodes", "child", "winners", "ends", "side", "options", "sought", "found", "k", "option"]
abbrev P_law_deciding : List Str := ["nodes", "child", "winners", "ends"]
theorem sc_law_deciding : FnScope N_law_deciding P_law_deciding (defScope s_law_deciding) := C8.fnScope_by (by decide +kernel)
abbrev s_law_large : Stmt := top 56
abbrev N_law_large : List Str := ["state", "duel", "tree", "nodes", "root", "ends", "due", "least", "at", "lots", "k", "share", "lot", "pivots", "leaf"]
abbrev P_law_large : List Str := ["state", "duel", "tree", "nodes", "root", "ends"]
theorem sc_law_large : FnScope N_law_large P_law_large (defScope s_law_large) := C8.fnScope_by (by decide +kernel)
abbrev s_law_wrong : Stmt := top 57
abbrev N_law_wrong : List Str := ["state", "many", "lot", "how", "at"]
abbrev P_law_wrong : List Str := ["state", "many", "lot"]
theorem sc_law_wrong : FnScope N_law_wrong P_law_wrong (defScope s_law_wrong) := C8.fnScope_by (by decide +kernel)
abbrev s_law_refused : Stmt := top 58
abbrev N_law_refused : List Str := ["duel", "lot", "e"]
abbrev P_law_refused : List Str := ["duel", "lot"]
theorem sc_law_refused : FnScope N_law_refused P_law_refused (defScope s_law_refused) := C8.fnScope_by (by decide +kernel)
abbrev s_law_whole : Stmt := top 59
abbrev N_law_whole : List Str := ["state", "duel", "tree", "nodes", "ends", "root", "lot"]
abbrev P_law_whole : List Str := ["state", "duel", "tree"]
theorem sc_law_whole : FnScope N_law_whole P_law_whole (defScope s_law_whole) := C8.fnScope_by (by decide +kernel)
abbrev s_law_exchanged : Stmt := top 60
abbrev N_law_exchanged : List Str := ["tree", "inner"]
abbrev P_law_exchanged : List Str := ["tree"]
theorem sc_law_exchanged : FnScope N_law_exchanged P_law_exchanged (defScope s_law_exchanged) := C8.fnScope_by (by decide +kernel)
abbrev s_law_replaced : Stmt := top 61
abbrev N_law_replaced : List Str := ["tree", "ends", "count", "inner"]
abbrev P_law_replaced : List Str := ["tree", "ends", "count"]
theorem sc_law_replaced : FnScope N_law_replaced P_law_replaced (defScope s_law_replaced) := C8.fnScope_by (by decide +kernel)
abbrev s_law : Stmt := top 62
abbrev N_law : List Str := ["script", "state", "room", "levels", "tree", "duel", "nodes", "ends", "root", "other", "turned", "least", "lot", "due", "leaf"]
abbrev P_law : List Str := ["script"]
theorem sc_law : FnScope N_law P_law (defScope s_law) := C8.fnScope_by (by decide +kernel)
end K44

set_option maxHeartbeats 4000000
namespace K44
open PySem PySem.Spec L2 DL DU
/-! ### what each def promises -/
def Fresh (Q : DK) (M : Mp) (ds : List D) : Prop := ∀ p, M p = none → Q (.ref p) (put M p (.lst ds))
def Drawn (M : Mp) (s l : Addr) (ns : List Int) (k : Mp → Prop) : Prop := ∀ M', PSt M' s l ns → Ext (Is s) M M' → k M'
def sp_is_outcome : DSp := fun ds M Q _ => ∃ i : Int, ds = [.int i] ∧ Q (.bl (decide (bit i))) M
def sp_check_tree : DSp := fun ds M Q _ => ∃ (t : Tr) (d : D) (lv : Nat), ds = [t.toD, d, .int (lv : Nat)] ∧ t.wf ∧ lv + t.ht ≤ 20 ∧ Q .non M
def In3 (a b c : Addr) : Addr → Prop := fun x => x = a ∨ x = b ∨ x = c
def In2 (a b : Addr) : Addr → Prop := fun x => x = a ∨ x = b
def sp_scan_tree (n : Nat) : DSp := fun ds M Q _ => ∃ (t : Tr) (ps : List D) (lv : Nat) (a b c : Addr) (ss : List Int) (xs : List D) (es : List Int), ds = [t.toD, .tup ps, .int (lv : Nat), .tup [.ref a, .ref b, .ref c]] ∧ t.wf ∧ t.ht < n ∧ lv + t.ht ≤ 20 ∧ ps.length + t.ht ≤ 1000 ∧
  a ≠ b ∧ a ≠ c ∧ b ≠ c ∧ M a = some (.lst (ss.map D.int)) ∧ M b = some (.lst xs) ∧ M c = some (.lst (es.map D.int)) ∧ xs.length = ss.length ∧ ss.length + t.nn ≤ 100000 ∧ es.length + t.nl ≤ 100000 ∧
  ∀ M', M' a = some (.lst ((ss ++ t.sides).map D.int)) → M' b = some (.lst (xs ++ (t.kids ss.length es.length).map kidsD)) → M' c = some (.lst ((es ++ t.ends).map D.int)) → Ext (In3 a b c) M M' → Q (chD (t.root ss.length es.length)) M'
def sp_Duel_init (C : Addr) : DSp := fun ds M Q _ => ∃ (x : Addr) (t : Tr), ds = [.ref x, t.toD] ∧ M x = some (.ins C []) ∧ good t ∧ ∀ M', DuelAt C M' x t → Ext (Is x) M M' → Q .non M'
def sp_swapped_tree (n : Nat) : DSp := fun ds M Q _ => ∃ t : Tr, ds = [t.toD] ∧ t.wf ∧ t.ht < n ∧ Q t.sw.toD M
def sp_swapped (C : Addr) : DSp := fun ds M Q _ => ∃ (a : Addr) (t : Tr), ds = [.ref a] ∧ DuelAt C M a t ∧ good t ∧ ∀ x M', M x = none → DuelAt C M' x t.sw → Sub M M' → Q (.ref x) M'
def sp_entry_of : DSp := fun ds M Q _ => ∃ (c : Ch) (W E : D) (ws es : List D) (v : D), ds = [chD c, W, E] ∧ sq W M = some ws ∧ sq E M = some es ∧ (match c with
  | .leaf l => es[l]? = some v
  | .node n => ws[n]? = some v) ∧ Q v M
def sp_winners_with (C : Addr) : DSp := fun ds M Q _ => ∃ (a : Addr) (t : Tr) (X : D) (es : List (Option Int)), ds = [.ref a, X] ∧ sq X M = some (es.map plD) ∧ DuelAt C M a t ∧ good t ∧ es.length = t.nl ∧ Fresh Q M ((vals3 es t).map plD)
def sp_winner (C : Addr) : DSp := fun ds M Q _ => ∃ (a : Addr) (t : Tr), ds = [.ref a] ∧ DuelAt C M a t ∧ good t ∧ Q (.int (winO t)) M
def sp_require_leaves (A : Adr) : DSp := fun ds M Q E => ∃ (a : Addr) (t : Tr) (lot : List Int), ds = [.ref a, .tup (lot.map D.int)] ∧ DuelAt A.Duel M a t ∧ good t ∧ lot.length ≤ 1000 ∧ (okLot t lot → Q .non M) ∧ (¬ okLot t lot → E ⟨.ref A.OutOfRange, none, []⟩ M)
def sp_certified_outcome (A : Adr) : DSp := fun ds M Q E => ∃ (a : Addr) (t : Tr) (lot : List Int), ds = [.ref a, .tup (lot.map D.int)] ∧ DuelAt A.Duel M a t ∧ good t ∧ lot.length ≤ 1000 ∧ (okLot t lot → Q (plD (certO t lot)) M) ∧ (¬ okLot t lot → E ⟨.ref A.OutOfRange, none, []⟩ M)
def sp_least_certificate (C : Addr) : DSp := fun ds M Q _ => ∃ (a : Addr) (t : Tr), ds = [.ref a] ∧ DuelAt C M a t ∧ good t ∧ Q (lotD (cO t 0).2) M
def sp_pivot_leaves (C : Addr) : DSp := fun ds M Q _ => ∃ (a : Addr) (t : Tr), ds = [.ref a] ∧ DuelAt C M a t ∧ good t ∧ Q (lotD (pivs t)) M
def sp_law_start1 : DSp := spStart1
def sp_law_start2 (K : PySem.W.Frag) : DSp := spStart2 K
def sp_law_start (K : PySem.W.Frag) : DSp := spStart K
def sp_law_pick : DSp := spPick
def sp_law_same : Nat → DSp := spSame
def sp_law_tree (n : Nat) : DSp := fun ds M Q _ => ∃ (s l : Addr) (ns : List Int) (lv : Nat) (ro : Addr) (x y : Nat), ds = [.ref s, .int (lv : Nat), .ref ro] ∧ PSt M s l ns ∧ ro ≠ s ∧ ro ≠ l ∧ M ro = some (.lst [.int (x : Nat), .int (y : Nat)]) ∧ lv < n ∧ x ≤ 200 ∧ y ≤ 200 ∧
  ∀ (t : Tr) (M' : Mp) (x' y' : Nat), t.wf → t.ht ≤ lv → t.nn + x' ≤ x → t.nl + y' ≤ y + 1 → PSt M' s l ns → Ext (In2 s ro) M M' → M' ro = some (.lst [.int (x' : Nat), .int (y' : Nat)]) → Q t.toD M'
def NodesNew (M M' : Mp) (us : List Addr) (ss : List Int) (ks : List (List Ch)) : Prop := ∀ (j : Nat) (s : Int) (k : List Ch), ss[j]? = some s → ks[j]? = some k → ∃ r o, us[j]? = some r ∧ M r = none ∧ M o = none ∧ M' r = some (.lst [.int s, .ref o]) ∧ M' o = some (.lst (k.map lchD))
def sp_law_scan (n : Nat) : DSp := fun ds M Q _ => ∃ (t : Tr) (a b : Addr) (rs : List Addr) (es : List Int), ds = [t.toD, .ref a, .ref b] ∧ t.wf ∧ t.ht < n ∧ a ≠ b ∧ M a = some (.lst (rs.map D.ref)) ∧ M b = some (.lst (es.map D.int)) ∧ rs.length + t.nn ≤ 100000 ∧ es.length + t.nl ≤ 100000 ∧
  ∀ M' us, us.length = t.nn → M' a = some (.lst ((rs ++ us).map D.ref)) → M' b = some (.lst ((es ++ t.ends).map D.int)) → Ext (In2 a b) M M' → NodesNew M M' us t.sides (t.kids rs.length es.length) → Q (lchD (t.root rs.length es.length)) M'
def sp_law_at : DSp := fun ds M Q _ => ∃ (c : Ch) (W E : D) (ws es : List D) (v : D), ds = [lchD c, W, E] ∧ sq W M = some ws ∧ sq E M = some es ∧ (match c with
  | .leaf l => es[l]? = some v
  | .node n => ws[n]? = some v) ∧ Q v M
def sp_law_winners : DSp := fun ds M Q _ => ∃ (a b : Addr) (t : Tr) (es : List Int), ds = [.ref a, .ref b] ∧ NodesAt M a t ∧ M b = some (.lst (es.map D.int)) ∧ good t ∧ es.length = t.nl ∧ (∀ o, o ∈ es → bit o) ∧ Fresh Q M ((wins es t).map D.int)
def sp_law_fewest (n : Nat) : DSp := fun ds M Q _ => ∃ (t : Tr) (l : Nat), ds = [t.toD, .int (l : Nat)] ∧ t.wf ∧ t.ht < n ∧ t.nl ≤ 200 ∧ Fresh Q M [.int (cO t l).1, lotD (cO t l).2, .int (t.nl : Nat)]
def sp_law_two : DSp := fun ds M Q _ => ∃ (a b : Addr) (t : Tr) (es lot : List Int) (L : D), ds = [.ref a, lchD (t.root 0 0), .ref b, L] ∧ NodesAt M a t ∧ M b = some (.lst (es.map D.int)) ∧ sq L M = some (lot.map D.int) ∧ good t ∧ es.length = t.nl ∧ (∀ o, o ∈ es → bit o) ∧ lot.length ≤ 1000 ∧ (∀ x, x ∈ lot → 0 ≤ x ∧ x < t.nl) ∧ Q (plD (certW es t lot)) M
def sp_law_wrong : DSp := fun ds M Q _ => ∃ (s l : Addr) (ns : List Int) (t : Tr) (lot : List Int), ds = [.ref s, .int (t.nl : Nat), .tup (lot.map D.int)] ∧ PSt M s l ns ∧ t.nl ≤ 200 ∧ 1 ≤ t.nl ∧ okLot t lot ∧ ∀ bad : List Int, ¬ okLot t bad → bad.length ≤ 1000 → Drawn M s l ns (Q (.tup (bad.map D.int)))
def sp_law_refused (A : Adr) : DSp := fun ds M Q _ => ∃ (a : Addr) (t : Tr) (lot : List Int), ds = [.ref a, .tup (lot.map D.int)] ∧ DuelAt A.Duel M a t ∧ good t ∧ lot.length ≤ 1000 ∧ (okLot t lot → Q (.str "let") M) ∧ (¬ okLot t lot → Q (.str "range") M)
def sp_law_replaced (n : Nat) : DSp := fun ds M Q _ => ∃ (t : Tr) (X : D) (es : List Int) (c : Addr) (k : Nat), ds = [t.toD, X, .ref c] ∧ (∀ b, X = .ref b → b ≠ c) ∧ sq X M = some (es.map D.int) ∧ M c = some (.lst [.int (k : Nat)]) ∧ k + t.nl ≤ es.length ∧ t.wf ∧ t.ht < n ∧ ∀ M', M' c = some (.lst [.int ((k + t.nl : Nat) : Int)]) → Ext (Is c) M M' → Q (t.re es k).toD M'
def sp_law_exchanged (n : Nat) : DSp := fun ds M Q _ => ∃ t : Tr, ds = [t.toD] ∧ t.wf ∧ t.ht < n ∧ Q t.sw.toD M
def sp_law_lots (n : Nat) : DSp := fun ds M Q _ => ∃ s k : Nat, ds = [.int (s : Nat), .int ((s + k : Nat) : Int)] ∧ k < n ∧ k ≤ 6 ∧ s + k ≤ 100 ∧ Fresh Q M ((lotsL k s).map lotD)
def natsD (c : List Nat) : List D := c.map fun n => D.int ((n : Nat) : Int)
def sp_law_parting : DSp := fun ds M Q _ => ∃ (a b : Addr) (t : Tr), ds = [.ref a, lchD (t.root 0 0), .ref b] ∧ NodesAt M a t ∧ M b = some (.lst (t.ends.map D.int)) ∧ good t ∧ t.nl ≤ 6 ∧ Fresh Q M (natsD (parts t))
def sp_law_certifies : DSp := fun ds M Q _ => ∃ (t : Tr) (c : List Nat) (p : Addr), ds = [lotD c, .ref p] ∧ M p = some (.lst (natsD (parts t))) ∧ c.Pairwise (· < ·) ∧ (∀ x, x ∈ c → x < t.nl) ∧ t.nl ≤ 6 ∧ t.wf ∧ Q (.bl (decide (certO t (lotI c) = some (winO t)))) M
def sp_law_small (A : Adr) : DSp := fun ds M Q _ => ∃ (d a b : Addr) (t : Tr), ds = [.ref d, .ref a, lchD (t.root 0 0), .ref b] ∧ DuelAt A.Duel M d t ∧ NodesAt M a t ∧ M b = some (.lst (t.ends.map D.int)) ∧ good t ∧ t.nl ≤ 6 ∧ Q (.bl true) M
def sp_law_deciding (n : Nat) : DSp := fun ds M Q _ => ∃ (a w e : Addr) (rs : List Addr) (ws es : List Int) (t : Tr) (k l : Nat), ds = [.ref a, lchD (t.root k l), .ref w, .ref e] ∧ M a = some (.lst (rs.map D.ref)) ∧ NodesIn M rs t.sides (t.kids k l) k ∧ t.wf ∧ t.ht < n ∧ M w = some (.lst (ws.map D.int)) ∧ M e = some (.lst (es.map D.int)) ∧
  (∀ j x, (valsT wrule (lv es) t k l)[j]? = some x → ws[k + j]? = some x) ∧ (∀ i, i < t.nl → lv es (l + i) = lv t.ends i) ∧ l + t.nl ≤ es.length ∧ t.nl ≤ 200 ∧ Fresh Q M (natsD ((pivs t).map (l + ·)))
def sp_law_large (A : Adr) : DSp := fun ds M Q _ => ∃ (s l : Addr) (ns : List Int) (d a b : Addr) (t : Tr), ds = [.ref s, .ref d, t.toD, .ref a, lchD (t.root 0 0), .ref b] ∧ PSt M s l ns ∧ DuelAt A.Duel M d t ∧ NodesAt M a t ∧ M b = some (.lst (t.ends.map D.int)) ∧ good t ∧ Drawn M s l ns (Q (.bl true))
def sp_law_whole (A : Adr) : DSp := fun ds M Q _ => ∃ (s l : Addr) (ns : List Int) (d : Addr) (t : Tr), ds = [.ref s, .ref d, t.toD] ∧ PSt M s l ns ∧ DuelAt A.Duel M d t ∧ good t ∧ Drawn M s l ns (Q (.bl true))
def sp_law (K : PySem.W.Frag) : DSp := spScript K
end K44

set_option maxHeartbeats 4000000
namespace K44
open PySem PySem.Spec L2 DL
section
variable {P : Program} {w : World} {K : PySem.W.Frag} {mg : Str → Option Value} {base : Heap} {A : Adr}
def t_is_outcome (K : PySem.W.Frag) (A : Adr) : DS :=
  (dRet (dAndV (dCB (isiG K) (dCons (dVar 0) (dCons (dC (.ty "int")) dNil))) (dChain (oI0 fun i j => .bl (decide (i ≤ j))) (oI0 fun i j => .bl (decide (i ≤ j))) (dC (.int 0)) (dVar 0) (dC (.int 1)))))
theorem ok_is_outcome {f : Addr} {fd : FuncData} (T : Txt w K mg A)  (F : L2.Fun K "is_outcome" "is_outcome" s_is_outcome f fd) (sp : DSp) (len : ∀ ds M Q E, sp ds M Q E → ds.length = P_is_outcome.length) (h : ∀ ds M Q E, sp ds M Q E → t_is_outcome K A (ends Q E) (dstart N_is_outcome ds) M) :
    FnOk P w K mg base (L2.CX P w) (0 + 1) f fd P_is_outcome (liftSp K sp) :=
  okD F sc_is_outcome len fun cdv Ar outer s H E hr tk => ⟨t_is_outcome K _, (pssd_one (psd_ret (pd_and (pd_callB call_isiG rfl T.n_isinstance bt_isinstance (pad_cons (pdv 0) (pad_cons (pd_ty rfl T.n_int bt_int) pad_nil))) (pd_one (pd_chain op_leD op_leD pd_int (pdv 0) pd_int))))), h⟩
def t_check_tree (K : PySem.W.Frag) (A : Adr) : DS :=
  (dSeq (dIfS (dOr (dNot (dTru (dCB (isiG K) (dCons (dVar 0) (dCons (dC (.ty "tuple")) dNil))))) (dOr (dB (dOp eqD (dCB lenG (dCons (dVar 0) dNil)) (dC (.int 0)))) (dB (dOp (inG true) (dOp ixG (dVar 0) (dC (.int 0))) (dTup (dCons (dC (.str "end")) (dCons (dC (.str "node")) dNil))))))) dNever dNext)
    (dSeq (dIfS (dAnd (dB (dOp eqD (dOp ixG (dVar 0) (dC (.int 0))) (dC (.str "end")))) (dB (dOp neD (dCB lenG (dCons (dVar 0) dNil)) (dC (.int 2))))) dNever dNext)
    (dSeq (dIfS (dAnd (dB (dOp eqD (dOp ixG (dVar 0) (dC (.int 0))) (dC (.str "node")))) (dOr (dNot (dB (dChain (oI0 fun i j => .bl (decide (i ≤ j))) (oI0 fun i j => .bl (decide (i ≤ j))) (dC (.int 3)) (dCB lenG (dCons (dVar 0) dNil)) (dOp addD (dC (.int 2)) (dC (.int 12)))))) (dB (dOp (oI0 fun i j => .bl (decide (j ≤ i))) (dVar 2) (dC (.int 20)))))) dNever dNext)
    (dIfS (dNot (dTru (dCall sp_is_outcome [] (dCons (dOp ixG (dVar 0) (dC (.int 1))) dNil)))) dNever dNext))))
theorem ok_check_tree {f : Addr} {fd : FuncData} (T : Txt w K mg A) (G_is_outcome : FnD P w K mg base 1 "is_outcome" P_is_outcome [] sp_is_outcome) (F : L2.Fun K "check_tree" "check_tree" s_check_tree f fd) (sp : DSp) (len : ∀ ds M Q E, sp ds M Q E → ds.length = P_check_tree.length) (h : ∀ ds M Q E, sp ds M Q E → t_check_tree K A (ends Q E) (dstart N_check_tree ds) M) :
    FnOk P w K mg base (L2.CX P w) (1 + 1) f fd P_check_tree (liftSp K sp) :=
  okD F sc_check_tree len fun cdv Ar outer s H E hr tk => ⟨t_check_tree K _, (pssd_cons (psd_if (PWD.pt (pwd_or (ptd_not (ptd_tru (pd_callB call_isiG rfl T.n_isinstance bt_isinstance (pad_cons (pdv 0) (pad_cons (pd_ty rfl T.n_tuple bt_tuple) pad_nil))))) (pwd_or (pt_cmpD (op_eqG (u200 hr)) (pd_callB call_lenG rfl T.n_len bt_len (pad_cons (pdv 0) pad_nil)) pd_int (nomark _)) (pwd_or1 (pt_cmpD op_notInG (pd_ix ix_G (pdv 0) pd_int (fun _ _ => rfl)) (pd_tup (pad_cons pd_str (pad_cons pd_str pad_nil))) (by with_unfolding_all rfl)))))) (pssd_one psd_never) pssd_nil)
    (pssd_cons (psd_if (PWD.pt (pwd_and (pt_cmpD (op_eqG (u200 hr)) (pd_ix ix_G (pdv 0) pd_int (fun _ _ => rfl)) pd_str (nomark _)) (pwd_and1 (pt_cmpD (op_neG (u200 hr)) (pd_callB call_lenG rfl T.n_len bt_len (pad_cons (pdv 0) pad_nil)) pd_int (nomark _))))) (pssd_one psd_never) pssd_nil)
    (pssd_cons (psd_if (PWD.pt (pwd_and (pt_cmpD (op_eqG (u200 hr)) (pd_ix ix_G (pdv 0) pd_int (fun _ _ => rfl)) pd_str (nomark _)) (pwd_and1 (PWD.pt (pwd_or (ptd_not (ptd_chain op_leD op_leD pd_int (pd_callB call_lenG rfl T.n_len bt_len (pad_cons (pdv 0) pad_nil)) (pd_op op_addD pd_int (pd_gint rfl T.c_MOST_TREES.choose_spec)))) (pwd_or1 (pt_cmpD op_geD (pdv 2) (pd_cst T.cst_Duel_MOST_LEVELS (pd_cls rfl T.m_Duel)) (nomark _)))))))) (pssd_one psd_never) pssd_nil)
    (pssd_one (psd_if (ptd_not (ptd_tru (pd_call G_is_outcome (hr.mono (by omega)) tk rfl (pad_cons (pd_ix ix_G (pdv 0) pd_int (fun _ _ => rfl)) pad_nil)))) (pssd_one psd_never) pssd_nil))))), h⟩
def t_scan_tree (K : PySem.W.Frag) (A : Adr) (n : Nat) : DS :=
  (dSeq (dDrop (dCall sp_check_tree [] (dCons (dVar 0) (dCons (dVar 1) (dCons (dVar 2) dNil)))))
    (dSeq (dAsg (dVar 3) (dGTup 3 (dGCons (dName 4) (dGCons (dName 5) (dGCons (dName 6) dGNil)))))
    (dSeq (dIfS (dB (dOp eqD (dOp ixG (dVar 0) (dC (.int 0))) (dC (.str "end")))) (dSeq (dDrop (dBM "list" appendM (dVar 6) (dCons (dOp ixG (dVar 0) (dC (.int 1))) dNil)))
    (dRet (dTup (dCons (dC (.str "leaf")) (dCons (dOp (oI0 fun i j => .int (i - j)) (dCB lenG (dCons (dVar 6) dNil)) (dC (.int 1))) dNil))))) dNext)
    (dSeq (dAsg (dCB lenG (dCons (dVar 4) dNil)) (dName 7))
    (dSeq (dDrop (dBM "list" appendM (dVar 4) (dCons (dOp ixG (dVar 0) (dC (.int 1))) dNil)))
    (dSeq (dDrop (dBM "list" appendM (dVar 5) (dCons (dTup dNil) dNil)))
    (dSeq (dAsg (dLc (dRng2 (dCons (dC (.int 2)) (dCons (dCB lenG (dCons (dVar 0) dNil)) dNil))) (fun d τ => τ.set 9 (some d)) dYes (dCall (sp_scan_tree n) [] (dCons (dOp ixG (dVar 0) (dVar 9)) (dCons (dOp addD (dVar 1) (dTup (dCons (dVar 9) dNil))) (dCons (dOp addD (dVar 2) (dC (.int 1))) (dCons (dVar 3) dNil))))) [9]) (dName 8))
    (dSeq (dAsg (dCB tupG (dCons (dVar 8) dNil)) (dGSub (dVar 5) (dVar 7)))
    (dRet (dTup (dCons (dC (.str "node")) (dCons (dVar 7) dNil))))))))))))
theorem ok_scan_tree {f : Addr} {fd : FuncData} {n : Nat} (T : Txt w K mg A) (G_check_tree : FnD P w K mg base 2 "check_tree" P_check_tree [] sp_check_tree) (G_scan_tree : FnD P w K mg base (2 + n) "scan_tree" P_scan_tree [] (sp_scan_tree n)) (F : L2.Fun K "scan_tree" "scan_tree" s_scan_tree f fd) (sp : DSp) (len : ∀ ds M Q E, sp ds M Q E → ds.length = P_scan_tree.length) (h : ∀ ds M Q E, sp ds M Q E → t_scan_tree K A n (ends Q E) (dstart N_scan_tree ds) M) :
    FnOk P w K mg base (L2.CX P w) (2 + n + 1) f fd P_scan_tree (liftSp K sp) :=
  okD F sc_scan_tree len fun cdv Ar outer s H E hr tk => ⟨t_scan_tree K _ n, (pssd_cons (psd_expr (pd_call G_check_tree (hr.mono (by omega)) tk rfl (pad_cons (pdv 0) (pad_cons (pdv 1) (pad_cons (pdv 2) pad_nil)))))
    (pssd_cons (psd_asg (pdv 3) (pgd_tup rfl (pgsd_cons (pgd_name (pg_name (i := 4) sc_scan_tree.nd rfl (Or.inl rfl))) (pgsd_cons (pgd_name (pg_name (i := 5) sc_scan_tree.nd rfl (Or.inl rfl))) (pgsd_cons (pgd_name (pg_name (i := 6) sc_scan_tree.nd rfl (Or.inl rfl))) pgsd_nil)))))
    (pssd_cons (psd_if (pt_cmpD (op_eqG (u200 hr)) (pd_ix ix_G (pdv 0) pd_int (fun _ _ => rfl)) pd_str (nomark _)) (pssd_cons (psd_expr (pd_bm PySem.F.plainAttrs_list PySem.F.slot_list_append PySem.F.type_list_append mt_appendM (pdv 6) (pad_cons (pd_ix ix_G (pdv 0) pd_int (fun _ _ => rfl)) pad_nil)))
    (pssd_one (psd_ret (pd_tup (pad_cons pd_str (pad_cons (pd_op op_subD (pd_callB call_lenG rfl T.n_len bt_len (pad_cons (pdv 6) pad_nil)) pd_int) pad_nil)))))) pssd_nil)
    (pssd_cons (psd_set (i := 7) sc_scan_tree.nd rfl (Or.inl rfl) (pd_callB call_lenG rfl T.n_len bt_len (pad_cons (pdv 4) pad_nil)))
    (pssd_cons (psd_expr (pd_bm PySem.F.plainAttrs_list PySem.F.slot_list_append PySem.F.type_list_append mt_appendM (pdv 4) (pad_cons (pd_ix ix_G (pdv 0) pd_int (fun _ _ => rfl)) pad_nil)))
    (pssd_cons (psd_expr (pd_bm PySem.F.plainAttrs_list PySem.F.slot_list_append PySem.F.type_list_append mt_appendM (pdv 5) (pad_cons (pd_tup pad_nil) pad_nil)))
    (pssd_cons (psd_setLc (own := [("k", 9)]) (i := 9) (j := 8) rfl sc_scan_tree.nd rfl rfl (sw_true rfl rfl rfl (by decide +kernel)) (pid_rng2 rfl T.n_range (pad_cons pd_int (pad_cons (pd_callB call_lenG rfl T.n_len bt_len (pad_cons (pdv 0) pad_nil)) pad_nil))) (blkOk_by (N := N_scan_tree) (sc := defScope s_scan_tree) (by decide +kernel)) (by decide) (fun _ _ _ _ _ => pg_name (i := 9) sc_scan_tree.nd rfl (Or.inl rfl)) (fun _ _ _ _ _ => ptsd_nil) (fun _ _ _ _ _ => (pd_call G_scan_tree (hr.mono (by omega)) tk0 rfl (pad_cons (pd_ix ix_G (pdv 0) (pdv 9) (fun _ _ => rfl)) (pad_cons (pd_op op_addD (pdv 1) (pd_tup (pad_cons (pdv 9) pad_nil))) (pad_cons (pd_op op_addD (pdv 2) pd_int) (pad_cons (pdv 3) pad_nil)))))))
    (pssd_cons (psd_asg (pd_callT call_tupG rfl T.n_tuple bt_tuple (pad_cons (pdv 8) pad_nil)) (pgd_sub (pdv 5) (pdv 7)))
    (pssd_one (psd_ret (pd_tup (pad_cons pd_str (pad_cons (pdv 7) pad_nil))))))))))))), h⟩
def t_Duel_init (K : PySem.W.Frag) (A : Adr) : DS :=
  (dSeq (dAsg (dLst dNil) (dName 2))
    (dSeq (dAsg (dLst dNil) (dName 3))
    (dSeq (dAsg (dLst dNil) (dName 4))
    (dSeq (dFldS K (dVar 0) (dCall (sp_scan_tree 22) [] (dCons (dVar 1) (dCons (dTup dNil) (dCons (dC (.int 0)) (dCons (dTup (dCons (dVar 2) (dCons (dVar 3) (dCons (dVar 4) dNil)))) dNil))))) "root")
    (dSeq (dIfS (dOr (dB (dOp (oI0 fun i j => .bl (decide (j < i))) (dCB lenG (dCons (dVar 2) dNil)) (dC (.int 200)))) (dB (dOp (oI0 fun i j => .bl (decide (j < i))) (dCB lenG (dCons (dVar 4) dNil)) (dC (.int 200))))) (dRaise A.TooLarge) dNext)
    (dSeq (dFldS K (dVar 0) (dVar 1) "tree")
    (dSeq (dFldS K (dVar 0) (dCB tupG (dCons (dVar 4) dNil)) "ends")
    (dSeq (dFldS K (dVar 0) (dCB tupG (dCons (dVar 2) dNil)) "sides")
    (dFldS K (dVar 0) (dCB tupG (dCons (dVar 3) dNil)) "children")))))))))
theorem ok_Duel_init {f : Addr} {fd : FuncData} (T : Txt w K mg A) (G_scan_tree : FnD P w K mg base 24 "scan_tree" P_scan_tree [] (sp_scan_tree 22)) (F : L2.Fun K "__init__" "Duel.__init__" s_Duel_init f fd) (sp : DSp) (len : ∀ ds M Q E, sp ds M Q E → ds.length = P_Duel_init.length) (h : ∀ ds M Q E, sp ds M Q E → t_Duel_init K A (ends Q E) (dstart N_Duel_init ds) M) :
    FnOk P w K mg base (L2.CX P w) (24 + 1) f fd P_Duel_init (liftSp K sp) :=
  okD F sc_Duel_init len fun cdv Ar outer s H E hr tk => ⟨t_Duel_init K _, (pssd_cons (psd_set (i := 2) sc_Duel_init.nd rfl (Or.inl rfl) (pd_lst pad_nil))
    (pssd_cons (psd_set (i := 3) sc_Duel_init.nd rfl (Or.inl rfl) (pd_lst pad_nil))
    (pssd_cons (psd_set (i := 4) sc_Duel_init.nd rfl (Or.inl rfl) (pd_lst pad_nil))
    (pssd_cons (psd_fld (pdv 0) (pd_call G_scan_tree (hr.mono (by omega)) tk rfl (pad_cons (pdv 1) (pad_cons (pd_tup pad_nil) (pad_cons pd_int (pad_cons (pd_tup (pad_cons (pdv 2) (pad_cons (pdv 3) (pad_cons (pdv 4) pad_nil)))) pad_nil))))))
    (pssd_cons (psd_if (PWD.pt (pwd_or (pt_cmpD op_gtD (pd_callB call_lenG rfl T.n_len bt_len (pad_cons (pdv 2) pad_nil)) (pd_cst T.cst_Duel_MOST_NODES (pd_cls rfl T.m_Duel)) (nomark _)) (pwd_or1 (pt_cmpD op_gtD (pd_callB call_lenG rfl T.n_len bt_len (pad_cons (pdv 4) pad_nil)) (pd_cst T.cst_Duel_MOST_LEAVES (pd_cls rfl T.m_Duel)) (nomark _))))) (pssd_one (psd_raise T.x_TooLarge rfl tk rfl)) pssd_nil)
    (pssd_cons (psd_fld (pdv 0) (pdv 1))
    (pssd_cons (psd_fld (pdv 0) (pd_callT call_tupG rfl T.n_tuple bt_tuple (pad_cons (pdv 4) pad_nil)))
    (pssd_cons (psd_fld (pdv 0) (pd_callT call_tupG rfl T.n_tuple bt_tuple (pad_cons (pdv 2) pad_nil)))
    (pssd_one (psd_fld (pdv 0) (pd_callT call_tupG rfl T.n_tuple bt_tuple (pad_cons (pdv 3) pad_nil)))))))))))), h⟩
def t_swapped_tree (K : PySem.W.Frag) (A : Adr) (n : Nat) : DS :=
  (dRet (dOp addD (dTup (dCons (dOp ixG (dVar 0) (dC (.int 0))) (dCons (dOp (oI0 fun i j => .int (i - j)) (dC (.int 1)) (dOp ixG (dVar 0) (dC (.int 1)))) dNil))) (dCB tupG (dCons (dLc (dIter (dSl (dVar 0) (dPart (dC (.int 2))) dNoP)) (fun d τ => τ.set 1 (some d)) dYes (dCall (sp_swapped_tree n) [] (dCons (dVar 1) dNil)) [1]) dNil))))
theorem ok_swapped_tree {f : Addr} {fd : FuncData} {n : Nat} (T : Txt w K mg A) (G_swapped_tree : FnD P w K mg base (0 + n) "swapped_tree" P_swapped_tree [] (sp_swapped_tree n)) (F : L2.Fun K "swapped_tree" "swapped_tree" s_swapped_tree f fd) (sp : DSp) (len : ∀ ds M Q E, sp ds M Q E → ds.length = P_swapped_tree.length) (h : ∀ ds M Q E, sp ds M Q E → t_swapped_tree K A n (ends Q E) (dstart N_swapped_tree ds) M) :
    FnOk P w K mg base (L2.CX P w) (0 + n + 1) f fd P_swapped_tree (liftSp K sp) :=
  okD F sc_swapped_tree len fun cdv Ar outer s H E hr tk => ⟨t_swapped_tree K _ n, (pssd_one (psd_ret (pd_op op_addD (pd_tup (pad_cons (pd_ix ix_G (pdv 0) pd_int (fun _ _ => rfl)) (pad_cons (pd_op op_subD pd_int (pd_ix ix_G (pdv 0) pd_int (fun _ _ => rfl))) pad_nil))) (pd_callT call_tupG rfl T.n_tuple bt_tuple (pad_cons (pd_lc (own := [("inner", 1)]) (i := 1) rfl sc_swapped_tree.nd (pid_any (pd_slice (pdv 0) (pod_some pd_int) pod_none)) (blkOk_by (N := N_swapped_tree) (sc := defScope s_swapped_tree) (by decide +kernel)) (by decide) (fun _ _ _ _ _ => pg_name (i := 1) sc_swapped_tree.nd rfl (Or.inl rfl)) (fun _ _ _ _ _ => ptsd_nil) (fun _ _ _ _ _ => (pd_call G_swapped_tree (hr.mono (by omega)) tk0 rfl (pad_cons (pdv 1) pad_nil)))) pad_nil))))), h⟩
def t_swapped (K : PySem.W.Frag) (A : Adr) : DS :=
  (dRet (dMake A.Duel (sp_Duel_init A.Duel) [] (dCons (dCall (sp_swapped_tree 22) [] (dCons (dFld K (dVar 0) "tree") dNil)) dNil)))
theorem ok_swapped {f : Addr} {fd : FuncData} (T : Txt w K mg A) (G_Duel_init : MakD P w K mg base 25 "Duel" A.Duel P_Duel_init [] (sp_Duel_init A.Duel)) (G_swapped_tree : FnD P w K mg base 22 "swapped_tree" P_swapped_tree [] (sp_swapped_tree 22)) (F : L2.Fun K "swapped" "swapped" s_swapped f fd) (sp : DSp) (len : ∀ ds M Q E, sp ds M Q E → ds.length = P_swapped.length) (h : ∀ ds M Q E, sp ds M Q E → t_swapped K A (ends Q E) (dstart N_swapped ds) M) :
    FnOk P w K mg base (L2.CX P w) (26 + 1) f fd P_swapped (liftSp K sp) :=
  okD F sc_swapped len fun cdv Ar outer s H E hr tk => ⟨t_swapped K _, (pssd_one (psd_ret (pd_make G_Duel_init (hr.mono (by omega)) tk rfl (pad_cons (pd_call G_swapped_tree (hr.mono (by omega)) tk rfl (pad_cons (pd_fld (pdv 0)) pad_nil)) pad_nil)))), h⟩
def t_entry_of (K : PySem.W.Frag) (A : Adr) : DS :=
  (dSeq (dAsg (dVar 0) (dGTup 2 (dGCons (dName 3) (dGCons (dName 4) dGNil))))
    (dSeq (dIfS (dB (dOp eqD (dVar 3) (dC (.str "leaf")))) (dRet (dOp ixG (dVar 2) (dVar 4))) dNext)
    (dRet (dOp ixG (dVar 1) (dVar 4)))))
theorem ok_entry_of {f : Addr} {fd : FuncData} (T : Txt w K mg A)  (F : L2.Fun K "entry_of" "entry_of" s_entry_of f fd) (sp : DSp) (len : ∀ ds M Q E, sp ds M Q E → ds.length = P_entry_of.length) (h : ∀ ds M Q E, sp ds M Q E → t_entry_of K A (ends Q E) (dstart N_entry_of ds) M) :
    FnOk P w K mg base (L2.CX P w) (0 + 1) f fd P_entry_of (liftSp K sp) :=
  okD F sc_entry_of len fun cdv Ar outer s H E hr tk => ⟨t_entry_of K _, (pssd_cons (psd_asg (pdv 0) (pgd_tup rfl (pgsd_cons (pgd_name (pg_name (i := 3) sc_entry_of.nd rfl (Or.inl rfl))) (pgsd_cons (pgd_name (pg_name (i := 4) sc_entry_of.nd rfl (Or.inl rfl))) pgsd_nil))))
    (pssd_cons (psd_if (pt_cmpD (op_eqG (u200 hr)) (pdv 3) pd_str (nomark _)) (pssd_one (psd_ret (pd_ix ix_G (pdv 2) (pdv 4) (fun _ _ => rfl)))) pssd_nil)
    (pssd_one (psd_ret (pd_ix ix_G (pdv 1) (pdv 4) (fun _ _ => rfl)))))), h⟩
def t_winners_with (K : PySem.W.Frag) (A : Adr) : DS :=
  (dSeq (dAsg (dLc (dIter (dFld K (dVar 0) "sides")) (fun d τ => τ.set 6 (some d)) dYes (dC .non) [6]) (dName 2))
    (dSeq (dFor (dRngD (dCons (dOp (oI0 fun i j => .int (i - j)) (dCB lenG (dCons (dFld K (dVar 0) "sides") dNil)) (dC (.int 1))) (dCons (dNeg (dC (.int 1))) (dCons (dNeg (dC (.int 1))) dNil)))) (dName 3) (dSeq (dAsg (dOp ixG (dFld K (dVar 0) "sides") (dVar 3)) (dName 4))
    (dSeq (dAsg (dLc (dIter (dOp ixG (dFld K (dVar 0) "children") (dVar 3))) (fun d τ => τ.set 7 (some d)) dYes (dCall sp_entry_of [] (dCons (dVar 7) (dCons (dVar 2) (dCons (dVar 1) dNil)))) [7]) (dName 5))
    (dIfS (dB (dOp (inG false) (dVar 4) (dVar 5))) (dAsg (dVar 4) (dGSub (dVar 2) (dVar 3))) (dIfS (dB (dOp (inG true) (dC .non) (dVar 5))) (dAsg (dOp (oI0 fun i j => .int (i - j)) (dC (.int 1)) (dVar 4)) (dGSub (dVar 2) (dVar 3))) dNext)))))
    (dRet (dVar 2))))
theorem ok_winners_with {f : Addr} {fd : FuncData} (T : Txt w K mg A) (G_entry_of : FnD P w K mg base 1 "entry_of" P_entry_of [] sp_entry_of) (F : L2.Fun K "winners_with" "winners_with" s_winners_with f fd) (sp : DSp) (len : ∀ ds M Q E, sp ds M Q E → ds.length = P_winners_with.length) (h : ∀ ds M Q E, sp ds M Q E → t_winners_with K A (ends Q E) (dstart N_winners_with ds) M) :
    FnOk P w K mg base (L2.CX P w) (1 + 1) f fd P_winners_with (liftSp K sp) :=
  okD F sc_winners_with len fun cdv Ar outer s H E hr tk => ⟨t_winners_with K _, (pssd_cons (psd_set (i := 2) sc_winners_with.nd rfl (Or.inr rfl) (pd_lc (own := [("_", 6)]) (i := 6) rfl sc_winners_with.nd (pid_any (pd_fld (pdv 0))) (blkOk_by (N := N_winners_with) (sc := defScope s_winners_with) (by decide +kernel)) (by decide) (fun _ _ _ _ _ => pg_name (i := 6) sc_winners_with.nd rfl (Or.inl rfl)) (fun _ _ _ _ _ => ptsd_nil) (fun _ _ _ _ _ => pd_non)))
    (pssd_cons (psd_for (passes_of rfl) rfl (pid_rngD rfl T.n_range (pad_cons (pd_op op_subD (pd_callB call_lenG rfl T.n_len bt_len (pad_cons (pd_fld (pdv 0)) pad_nil)) pd_int) (pad_cons (pd_neg pd_int) (pad_cons (pd_neg pd_int) pad_nil)))) (pgd_name (pg_name (i := 3) sc_winners_with.nd rfl (Or.inl rfl))) (pssd_cons (psd_set (i := 4) sc_winners_with.nd rfl (Or.inl rfl) (pd_ix ix_G (pd_fld (pdv 0)) (pdv 3) (fun _ _ => rfl)))
    (pssd_cons (psd_setLc (own := [("child", 7)]) (i := 7) (j := 5) rfl sc_winners_with.nd rfl rfl (sw_true rfl rfl rfl (by decide +kernel)) (pid_any (pd_ix ix_G (pd_fld (pdv 0)) (pdv 3) (fun _ _ => rfl))) (blkOk_by (N := N_winners_with) (sc := defScope s_winners_with) (by decide +kernel)) (by decide) (fun _ _ _ _ _ => pg_name (i := 7) sc_winners_with.nd rfl (Or.inl rfl)) (fun _ _ _ _ _ => ptsd_nil) (fun _ _ _ _ _ => (pd_call G_entry_of (hr.mono (by omega)) tk0 rfl (pad_cons (pdv 7) (pad_cons (pdv 2) (pad_cons (pdv 1) pad_nil))))))
    (pssd_one (psd_if (pt_cmpD op_inG (pdv 4) (pdv 5) (by with_unfolding_all rfl)) (pssd_one (psd_asg (pdv 4) (pgd_sub (pdv 2) (pdv 3)))) (pssd_one (psd_if (pt_cmpD op_notInG pd_non (pdv 5) (by with_unfolding_all rfl)) (pssd_one (psd_asg (pd_op op_subD pd_int (pdv 4)) (pgd_sub (pdv 2) (pdv 3)))) pssd_nil)))))))
    (pssd_one (psd_ret (pdv 2))))), h⟩
def t_winner (K : PySem.W.Frag) (A : Adr) : DS :=
  (dRet (dCall sp_entry_of [] (dCons (dFld K (dVar 0) "root") (dCons (dCall (sp_winners_with A.Duel) [] (dCons (dVar 0) (dCons (dFld K (dVar 0) "ends") dNil))) (dCons (dFld K (dVar 0) "ends") dNil)))))
theorem ok_winner {f : Addr} {fd : FuncData} (T : Txt w K mg A) (G_entry_of : FnD P w K mg base 1 "entry_of" P_entry_of [] sp_entry_of) (G_winners_with : FnD P w K mg base 2 "winners_with" P_winners_with [] (sp_winners_with A.Duel)) (F : L2.Fun K "winner" "winner" s_winner f fd) (sp : DSp) (len : ∀ ds M Q E, sp ds M Q E → ds.length = P_winner.length) (h : ∀ ds M Q E, sp ds M Q E → t_winner K A (ends Q E) (dstart N_winner ds) M) :
    FnOk P w K mg base (L2.CX P w) (2 + 1) f fd P_winner (liftSp K sp) :=
  okD F sc_winner len fun cdv Ar outer s H E hr tk => ⟨t_winner K _, (pssd_one (psd_ret (pd_call G_entry_of (hr.mono (by omega)) tk rfl (pad_cons (pd_fld (pdv 0)) (pad_cons (pd_call G_winners_with (hr.mono (by omega)) tk rfl (pad_cons (pdv 0) (pad_cons (pd_fld (pdv 0)) pad_nil))) (pad_cons (pd_fld (pdv 0)) pad_nil)))))), h⟩
def t_require_leaves (K : PySem.W.Frag) (A : Adr) : DS :=
  (dFor (dRng1 (dCons (dCB lenG (dCons (dVar 1) dNil)) dNil)) (dName 2) (dIfS (dOr (dNot (dB (dChain (oI0 fun i j => .bl (decide (i ≤ j))) (oI0 fun i j => .bl (decide (i < j))) (dC (.int 0)) (dOp ixG (dVar 1) (dVar 2)) (dCB lenG (dCons (dFld K (dVar 0) "ends") dNil))))) (dAnd (dB (dOp (oI0 fun i j => .bl (decide (j < i))) (dVar 2) (dC (.int 0)))) (dB (dOp (oI0 fun i j => .bl (decide (i ≤ j))) (dOp ixG (dVar 1) (dVar 2)) (dOp ixG (dVar 1) (dOp (oI0 fun i j => .int (i - j)) (dVar 2) (dC (.int 1)))))))) (dRaise A.OutOfRange) dNext))
theorem ok_require_leaves {f : Addr} {fd : FuncData} (T : Txt w K mg A)  (F : L2.Fun K "require_leaves" "require_leaves" s_require_leaves f fd) (sp : DSp) (len : ∀ ds M Q E, sp ds M Q E → ds.length = P_require_leaves.length) (h : ∀ ds M Q E, sp ds M Q E → t_require_leaves K A (ends Q E) (dstart N_require_leaves ds) M) :
    FnOk P w K mg base (L2.CX P w) (0 + 1) f fd P_require_leaves (liftSp K sp) :=
  okD F sc_require_leaves len fun cdv Ar outer s H E hr tk => ⟨t_require_leaves K _, (pssd_one (psd_for (passes_of rfl) rfl (pid_rng1 rfl T.n_range (pad_cons (pd_callB call_lenG rfl T.n_len bt_len (pad_cons (pdv 1) pad_nil)) pad_nil)) (pgd_name (pg_name (i := 2) sc_require_leaves.nd rfl (Or.inl rfl))) (pssd_one (psd_if (PWD.pt (pwd_or (ptd_not (ptd_chain op_leD op_ltD pd_int (pd_ix ix_G (pdv 1) (pdv 2) (fun _ _ => rfl)) (pd_callB call_lenG rfl T.n_len bt_len (pad_cons (pd_fld (pdv 0)) pad_nil)))) (pwd_or1 (PWD.pt (pwd_and (pt_cmpD op_gtD (pdv 2) pd_int (nomark _)) (pwd_and1 (pt_cmpD op_leD (pd_ix ix_G (pdv 1) (pdv 2) (fun _ _ => rfl)) (pd_ix ix_G (pdv 1) (pd_op op_subD (pdv 2) pd_int) (fun _ _ => rfl)) (nomark _)))))))) (pssd_one (psd_raise T.x_OutOfRange rfl tk rfl)) pssd_nil)))), h⟩
def t_certified_outcome (K : PySem.W.Frag) (A : Adr) : DS :=
  (dSeq (dDrop (dCall (sp_require_leaves A) [] (dCons (dVar 0) (dCons (dVar 1) dNil))))
    (dSeq (dAsg (dLc (dIter (dFld K (dVar 0) "ends")) (fun d τ => τ.set 4 (some d)) dYes (dC .non) [4]) (dName 2))
    (dSeq (dFor (dIter (dVar 1)) (dName 3) (dAsg (dOp ixG (dFld K (dVar 0) "ends") (dVar 3)) (dGSub (dVar 2) (dVar 3))))
    (dRet (dCall sp_entry_of [] (dCons (dFld K (dVar 0) "root") (dCons (dCall (sp_winners_with A.Duel) [] (dCons (dVar 0) (dCons (dVar 2) dNil))) (dCons (dVar 2) dNil))))))))
theorem ok_certified_outcome {f : Addr} {fd : FuncData} (T : Txt w K mg A) (G_entry_of : FnD P w K mg base 1 "entry_of" P_entry_of [] sp_entry_of) (G_require_leaves : FnD P w K mg base 1 "require_leaves" P_require_leaves [] (sp_require_leaves A)) (G_winners_with : FnD P w K mg base 2 "winners_with" P_winners_with [] (sp_winners_with A.Duel)) (F : L2.Fun K "certified_outcome" "certified_outcome" s_certified_outcome f fd) (sp : DSp) (len : ∀ ds M Q E, sp ds M Q E → ds.length = P_certified_outcome.length) (h : ∀ ds M Q E, sp ds M Q E → t_certified_outcome K A (ends Q E) (dstart N_certified_outcome ds) M) :
    FnOk P w K mg base (L2.CX P w) (2 + 1) f fd P_certified_outcome (liftSp K sp) :=
  okD F sc_certified_outcome len fun cdv Ar outer s H E hr tk => ⟨t_certified_outcome K _, (pssd_cons (psd_expr (pd_call G_require_leaves (hr.mono (by omega)) tk rfl (pad_cons (pdv 0) (pad_cons (pdv 1) pad_nil))))
    (pssd_cons (psd_setLc (own := [("_", 4)]) (i := 4) (j := 2) rfl sc_certified_outcome.nd rfl rfl (sw_true rfl rfl rfl (by decide +kernel)) (pid_any (pd_fld (pdv 0))) (blkOk_by (N := N_certified_outcome) (sc := defScope s_certified_outcome) (by decide +kernel)) (by decide) (fun _ _ _ _ _ => pg_name (i := 4) sc_certified_outcome.nd rfl (Or.inl rfl)) (fun _ _ _ _ _ => ptsd_nil) (fun _ _ _ _ _ => pd_non))
    (pssd_cons (psd_for (passes_of rfl) rfl (pid_any (pdv 1)) (pgd_name (pg_name (i := 3) sc_certified_outcome.nd rfl (Or.inl rfl))) (pssd_one (psd_asg (pd_ix ix_G (pd_fld (pdv 0)) (pdv 3) (fun _ _ => rfl)) (pgd_sub (pdv 2) (pdv 3)))))
    (pssd_one (psd_ret (pd_call G_entry_of (hr.mono (by omega)) tk rfl (pad_cons (pd_fld (pdv 0)) (pad_cons (pd_call G_winners_with (hr.mono (by omega)) tk rfl (pad_cons (pdv 0) (pad_cons (pdv 2) pad_nil))) (pad_cons (pdv 2) pad_nil))))))))), h⟩
def t_least_certificate (K : PySem.W.Frag) (A : Adr) : DS :=
  (dSeq (dAsg (dCall (sp_winners_with A.Duel) [] (dCons (dVar 0) (dCons (dFld K (dVar 0) "ends") dNil))) (dName 1))
    (dSeq (dAsg (dLc (dRng1 (dCons (dCB lenG (dCons (dFld K (dVar 0) "ends") dNil)) dNil)) (fun d τ => τ.set 8 (some d)) dYes (dTup (dCons (dVar 8) dNil)) [8]) (dName 2))
    (dSeq (dAsg (dLc (dIter (dFld K (dVar 0) "sides")) (fun d τ => τ.set 9 (some d)) dYes (dTup dNil) [9]) (dName 3))
    (dSeq (dFor (dRngD (dCons (dOp (oI0 fun i j => .int (i - j)) (dCB lenG (dCons (dFld K (dVar 0) "sides") dNil)) (dC (.int 1))) (dCons (dNeg (dC (.int 1))) (dCons (dNeg (dC (.int 1))) dNil)))) (dName 4) (dSeq (dAsg (dOp ixG (dFld K (dVar 0) "children") (dVar 4)) (dName 5))
    (dSeq (dAsg (dLc (dIter (dVar 5)) (fun d τ => τ.set 10 (some d)) dYes (dCall sp_entry_of [] (dCons (dVar 10) (dCons (dVar 3) (dCons (dVar 2) dNil)))) [10]) (dName 6))
    (dIfS (dB (dOp eqD (dOp ixG (dVar 1) (dVar 4)) (dOp ixG (dFld K (dVar 0) "sides") (dVar 4)))) (dSeq (dAsg (dLc (dIter (dVar 5)) (fun d τ => τ.set 10 (some d)) dYes (dOp eqD (dCall sp_entry_of [] (dCons (dVar 10) (dCons (dVar 1) (dCons (dFld K (dVar 0) "ends") dNil)))) (dOp ixG (dVar 1) (dVar 4))) [10]) (dName 7))
    (dAsg (dMinLen (dLcG isTwo (dZip (dCons (dVar 6) (dCons (dVar 7) dNil))) (two 11 12) (dTru (dVar 12)) (dVar 11) [11, 12])) (dGSub (dVar 3) (dVar 4)))) (dAsg (dCB tupG (dCons (dLc2 (dIter (dVar 6)) (fun d τ => τ.set 11 (some d)) dYes (dIter (dVar 11)) (fun d τ => τ.set 8 (some d)) dYes (dVar 8) [11, 8] [8]) dNil)) (dGSub (dVar 3) (dVar 4)))))))
    (dRet (dCall sp_entry_of [] (dCons (dFld K (dVar 0) "root") (dCons (dVar 3) (dCons (dVar 2) dNil)))))))))
theorem ok_least_certificate {f : Addr} {fd : FuncData} (T : Txt w K mg A) (G_entry_of : FnD P w K mg base 1 "entry_of" P_entry_of [] sp_entry_of) (G_winners_with : FnD P w K mg base 2 "winners_with" P_winners_with [] (sp_winners_with A.Duel)) (F : L2.Fun K "least_certificate" "least_certificate" s_least_certificate f fd) (sp : DSp) (len : ∀ ds M Q E, sp ds M Q E → ds.length = P_least_certificate.length) (h : ∀ ds M Q E, sp ds M Q E → t_least_certificate K A (ends Q E) (dstart N_least_certificate ds) M) :
    FnOk P w K mg base (L2.CX P w) (2 + 1) f fd P_least_certificate (liftSp K sp) :=
  okD F sc_least_certificate len fun cdv Ar outer s H E hr tk => ⟨t_least_certificate K _, (pssd_cons (psd_set (i := 1) sc_least_certificate.nd rfl (Or.inr rfl) (pd_call G_winners_with (hr.mono (by omega)) tk rfl (pad_cons (pdv 0) (pad_cons (pd_fld (pdv 0)) pad_nil))))
    (pssd_cons (psd_set (i := 2) sc_least_certificate.nd rfl (Or.inr rfl) (pd_lc (own := [("leaf", 8)]) (i := 8) rfl sc_least_certificate.nd (pid_rng1 rfl T.n_range (pad_cons (pd_callB call_lenG rfl T.n_len bt_len (pad_cons (pd_fld (pdv 0)) pad_nil)) pad_nil)) (blkOk_by (N := N_least_certificate) (sc := defScope s_least_certificate) (by decide +kernel)) (by decide) (fun _ _ _ _ _ => pg_name (i := 8) sc_least_certificate.nd rfl (Or.inl rfl)) (fun _ _ _ _ _ => ptsd_nil) (fun _ _ _ _ _ => (pd_tup (pad_cons (pdv 8) pad_nil)))))
    (pssd_cons (psd_set (i := 3) sc_least_certificate.nd rfl (Or.inr rfl) (pd_lc (own := [("_", 9)]) (i := 9) rfl sc_least_certificate.nd (pid_any (pd_fld (pdv 0))) (blkOk_by (N := N_least_certificate) (sc := defScope s_least_certificate) (by decide +kernel)) (by decide) (fun _ _ _ _ _ => pg_name (i := 9) sc_least_certificate.nd rfl (Or.inl rfl)) (fun _ _ _ _ _ => ptsd_nil) (fun _ _ _ _ _ => (pd_tup pad_nil))))
    (pssd_cons (psd_for (passes_of rfl) rfl (pid_rngD rfl T.n_range (pad_cons (pd_op op_subD (pd_callB call_lenG rfl T.n_len bt_len (pad_cons (pd_fld (pdv 0)) pad_nil)) pd_int) (pad_cons (pd_neg pd_int) (pad_cons (pd_neg pd_int) pad_nil)))) (pgd_name (pg_name (i := 4) sc_least_certificate.nd rfl (Or.inr rfl))) (pssd_cons (psd_set (i := 5) sc_least_certificate.nd rfl (Or.inl rfl) (pd_ix ix_G (pd_fld (pdv 0)) (pdv 4) (fun _ _ => rfl)))
    (pssd_cons (psd_setLc (own := [("child", 10)]) (i := 10) (j := 6) rfl sc_least_certificate.nd rfl rfl (sw_true rfl rfl rfl (by decide +kernel)) (pid_any (pdv 5)) (blkOk_by (N := N_least_certificate) (sc := defScope s_least_certificate) (by decide +kernel)) (by decide) (fun _ _ _ _ _ => pg_name (i := 10) sc_least_certificate.nd rfl (Or.inl rfl)) (fun _ _ _ _ _ => ptsd_nil) (fun _ _ _ _ _ => (pd_call G_entry_of (hr.mono (by omega)) tk0 rfl (pad_cons (pdv 10) (pad_cons (pdv 3) (pad_cons (pdv 2) pad_nil))))))
    (pssd_one (psd_if (pt_cmpD (op_eqG (u200 hr)) (pd_ix ix_G (pdv 1) (pdv 4) (fun _ _ => rfl)) (pd_ix ix_G (pd_fld (pdv 0)) (pdv 4) (fun _ _ => rfl)) (nomark _)) (pssd_cons (psd_setLc (own := [("child", 10)]) (i := 10) (j := 7) rfl sc_least_certificate.nd rfl rfl (sw_true rfl rfl rfl (by decide +kernel)) (pid_any (pdv 5)) (blkOk_by (N := N_least_certificate) (sc := defScope s_least_certificate) (by decide +kernel)) (by decide) (fun _ _ _ _ _ => pg_name (i := 10) sc_least_certificate.nd rfl (Or.inl rfl)) (fun _ _ _ _ _ => ptsd_nil) (fun _ _ _ _ _ => (pd_cmp (op_eqG (u200 hr)) (pd_call G_entry_of (hr.mono (by omega)) tk0 rfl (pad_cons (pdv 10) (pad_cons (pdv 1) (pad_cons (pd_fld (pdv 0)) pad_nil)))) (pd_ix ix_G (pdv 1) (pdv 4) (fun _ _ => rfl)) (nomark _))))
    (pssd_one (psd_asg (pd_minLen rfl rfl T.n_min rfl T.n_len (pd_lcG (own := [("lot", 11), ("fits", 12)]) rfl sc_least_certificate.nd (pid_zip rfl T.n_zip (pad_cons (pdv 6) (pad_cons (pdv 7) pad_nil))) (blkOk_by (N := N_least_certificate) (sc := defScope s_least_certificate) (by decide +kernel)) (tg_two (i := 11) (j := 12) (by decide) (by decide)) (fun _ _ _ _ _ => pg_tup rfl (pgs_cons (pg_name (i := 11) sc_least_certificate.nd rfl (Or.inl rfl)) (pgs_cons (pg_name (i := 12) sc_least_certificate.nd rfl (Or.inl rfl)) pgs_nil)) rfl rfl) (fun _ _ _ _ _ => (ptsd_one (ptd_tru (pdv 12)))) (fun _ _ _ _ _ => (pdv 11)))) (pgd_sub (pdv 3) (pdv 4))))) (pssd_one (psd_asg (pd_callT call_tupG rfl T.n_tuple bt_tuple (pad_cons (pd_lc2 (own := [("lot", 11), ("leaf", 8)]) (i := 11) (j := 8) (vs1 := [8]) rfl sc_least_certificate.nd (pid_any (pdv 6)) (blkOk_by (N := N_least_certificate) (sc := defScope s_least_certificate) (by decide +kernel)) (by decide) (by decide) (by decide) (fun _ _ _ _ _ => (pg_name (i := 11) sc_least_certificate.nd rfl (Or.inl rfl))) (fun _ _ _ _ _ => ptsd_nil) (fun _ _ _ _ _ => (pid_any (pdv 11))) (fun _ _ _ _ _ => (pg_name (i := 8) sc_least_certificate.nd rfl (Or.inl rfl))) (fun _ _ _ _ _ => ptsd_nil) (fun _ _ _ _ _ => (pdv 8))) pad_nil)) (pgd_sub (pdv 3) (pdv 4)))))))))
    (pssd_one (psd_ret (pd_call G_entry_of (hr.mono (by omega)) tk rfl (pad_cons (pd_fld (pdv 0)) (pad_cons (pdv 3) (pad_cons (pdv 2) pad_nil)))))))))), h⟩
def t_pivot_leaves (K : PySem.W.Frag) (A : Adr) : DS :=
  (dSeq (dAsg (dCall (sp_winner A.Duel) [] (dCons (dVar 0) dNil)) (dName 1))
    (dSeq (dAsg (dLst dNil) (dName 2))
    (dSeq (dFor (dRng1 (dCons (dCB lenG (dCons (dFld K (dVar 0) "ends") dNil)) dNil)) (dName 3) (dSeq (dAsg (dCB lstG (dCons (dFld K (dVar 0) "ends") dNil)) (dName 4))
    (dSeq (dAsg (dOp (oI0 fun i j => .int (i - j)) (dC (.int 1)) (dOp ixG (dVar 4) (dVar 3))) (dGSub (dVar 4) (dVar 3)))
    (dIfS (dB (dOp neD (dCall sp_entry_of [] (dCons (dFld K (dVar 0) "root") (dCons (dCall (sp_winners_with A.Duel) [] (dCons (dVar 0) (dCons (dVar 4) dNil))) (dCons (dVar 4) dNil)))) (dVar 1))) (dDrop (dBM "list" appendM (dVar 2) (dCons (dVar 3) dNil))) dNext))))
    (dRet (dCB tupG (dCons (dVar 2) dNil))))))
theorem ok_pivot_leaves {f : Addr} {fd : FuncData} (T : Txt w K mg A) (G_entry_of : FnD P w K mg base 1 "entry_of" P_entry_of [] sp_entry_of) (G_winner : FnD P w K mg base 3 "winner" P_winner [] (sp_winner A.Duel)) (G_winners_with : FnD P w K mg base 2 "winners_with" P_winners_with [] (sp_winners_with A.Duel)) (F : L2.Fun K "pivot_leaves" "pivot_leaves" s_pivot_leaves f fd) (sp : DSp) (len : ∀ ds M Q E, sp ds M Q E → ds.length = P_pivot_leaves.length) (h : ∀ ds M Q E, sp ds M Q E → t_pivot_leaves K A (ends Q E) (dstart N_pivot_leaves ds) M) :
    FnOk P w K mg base (L2.CX P w) (3 + 1) f fd P_pivot_leaves (liftSp K sp) :=
  okD F sc_pivot_leaves len fun cdv Ar outer s H E hr tk => ⟨t_pivot_leaves K _, (pssd_cons (psd_set (i := 1) sc_pivot_leaves.nd rfl (Or.inl rfl) (pd_call G_winner (hr.mono (by omega)) tk rfl (pad_cons (pdv 0) pad_nil)))
    (pssd_cons (psd_set (i := 2) sc_pivot_leaves.nd rfl (Or.inl rfl) (pd_lst pad_nil))
    (pssd_cons (psd_for (passes_of rfl) rfl (pid_rng1 rfl T.n_range (pad_cons (pd_callB call_lenG rfl T.n_len bt_len (pad_cons (pd_fld (pdv 0)) pad_nil)) pad_nil)) (pgd_name (pg_name (i := 3) sc_pivot_leaves.nd rfl (Or.inl rfl))) (pssd_cons (psd_set (i := 4) sc_pivot_leaves.nd rfl (Or.inl rfl) (pd_callT call_lstG rfl T.n_list bt_list (pad_cons (pd_fld (pdv 0)) pad_nil)))
    (pssd_cons (psd_asg (pd_op op_subD pd_int (pd_ix ix_G (pdv 4) (pdv 3) (fun _ _ => rfl))) (pgd_sub (pdv 4) (pdv 3)))
    (pssd_one (psd_if (pt_cmpD (op_neG (u200 hr)) (pd_call G_entry_of (hr.mono (by omega)) tk rfl (pad_cons (pd_fld (pdv 0)) (pad_cons (pd_call G_winners_with (hr.mono (by omega)) tk rfl (pad_cons (pdv 0) (pad_cons (pdv 4) pad_nil))) (pad_cons (pdv 4) pad_nil)))) (pdv 1) (nomark _)) (pssd_one (psd_expr (pd_bm PySem.F.plainAttrs_list PySem.F.slot_list_append PySem.F.type_list_append mt_appendM (pdv 2) (pad_cons (pdv 3) pad_nil)))) pssd_nil)))))
    (pssd_one (psd_ret (pd_callT call_tupG rfl T.n_tuple bt_tuple (pad_cons (pdv 2) pad_nil))))))), h⟩
def t_law_start (K : PySem.W.Frag) (A : Adr) : DS :=
  (dSeq (dAsg (dC (.int 7)) (dName 1))
    (dSeq (dFor (dRng1 (dCons (dCB lenG (dCons (dVar 0) dNil)) dNil)) (dName 2) (dAsg (dOp (oI (fun _ j => 0 < j) fun i j => .int (i % j)) (dOp addD (dOp addD (dOp addD (dOp mulD (dVar 1) (dC (.int 48271))) (dOp (oI (fun _ j => 0 < j) fun i j => .int (i % j)) (dCB intG (dCons (dOp ixG (dVar 0) (dVar 2)) dNil)) (dC (.int 2147483647)))) (dVar 2)) (dC (.int 1))) (dC (.int 2147483647))) (dName 1)))
    (dRet (dLst (dCons (dVar 1) (dCons (dCB lstG (dCons (dVar 0) dNil)) (dCons (dC (.int 0)) (dCons (dC (.int 0)) dNil))))))))
theorem ok_law_start {f : Addr} {fd : FuncData} (T : Txt w K mg A)  (F : L2.Fun K "_law_start" "_law_start" s_law_start f fd) (sp : DSp) (len : ∀ ds M Q E, sp ds M Q E → ds.length = P_law_start.length) (h : ∀ ds M Q E, sp ds M Q E → t_law_start K A (ends Q E) (dstart N_law_start ds) M) :
    FnOk P w K mg base (L2.CX P w) (0 + 1) f fd P_law_start (liftSp K sp) :=
  okD F sc_law_start len fun cdv Ar outer s H E hr tk => ⟨t_law_start K _, (pssd_cons (psd_set (i := 1) sc_law_start.nd rfl (Or.inl rfl) pd_int)
    (pssd_cons (psd_for (passes_of rfl) rfl (pid_rng1 rfl T.n_range (pad_cons (pd_callB call_lenG rfl T.n_len bt_len (pad_cons (pdv 0) pad_nil)) pad_nil)) (pgd_name (pg_name (i := 2) sc_law_start.nd rfl (Or.inl rfl))) (pssd_one (psd_set (i := 1) sc_law_start.nd rfl (Or.inl rfl) (pd_op op_modD (pd_op op_addD (pd_op op_addD (pd_op op_addD (pd_op op_mulD (pdv 1) pd_int) (pd_op op_modD (pd_callT call_intG rfl T.n_int bt_int (pad_cons (pd_ix ix_G (pdv 0) (pdv 2) (fun _ _ => rfl)) pad_nil)) pd_int)) (pdv 2)) pd_int) pd_int))))
    (pssd_one (psd_ret (pd_lst (pad_cons (pdv 1) (pad_cons (pd_callT call_lstG rfl T.n_list bt_list (pad_cons (pdv 0) pad_nil)) (pad_cons pd_int (pad_cons pd_int pad_nil))))))))), h⟩
def t_law_startK (K : PySem.W.Frag) (A : Adr) : DS :=
  (dSeq (dAsg (dC (.int 7)) (dName 1))
    (dSeq (dFor (dRng1 (dCons (dCB (lenK K) (dCons (dVar 0) dNil)) dNil)) (dName 2) (dAsg (dOp (oI (fun _ j => 0 < j) fun i j => .int (i % j)) (dOp addD (dOp addD (dOp addD (dOp mulD (dVar 1) (dC (.int 48271))) (dOp (oI (fun _ j => 0 < j) fun i j => .int (i % j)) (dCB intG (dCons (dOp (ixK K) (dVar 0) (dVar 2)) dNil)) (dC (.int 2147483647)))) (dVar 2)) (dC (.int 1))) (dC (.int 2147483647))) (dName 1)))
    (dRet (dLst (dCons (dVar 1) (dCons (dCB (lstK K) (dCons (dVar 0) dNil)) (dCons (dC (.int 0)) (dCons (dC (.int 0)) dNil))))))))
theorem ok_law_startK {f : Addr} {fd : FuncData} (T : Txt w K mg A)  (F : L2.Fun K "_law_start" "_law_start" s_law_start f fd) (sp : DSp) (len : ∀ ds M Q E, sp ds M Q E → ds.length = P_law_start.length) (h : ∀ ds M Q E, sp ds M Q E → t_law_startK K A (ends Q E) (dstart N_law_start ds) M) :
    FnOk P w K mg base (L2.CX P w) (0 + 1) f fd P_law_start (liftSp K sp) :=
  okD F sc_law_start len fun cdv Ar outer s H E hr tk => ⟨t_law_startK K _, (pssd_cons (psd_set (i := 1) sc_law_start.nd rfl (Or.inl rfl) pd_int)
    (pssd_cons (psd_for (passes_of rfl) rfl (pid_rng1 rfl T.n_range (pad_cons (pd_callB call_lenK rfl T.n_len bt_len (pad_cons (pdv 0) pad_nil)) pad_nil)) (pgd_name (pg_name (i := 2) sc_law_start.nd rfl (Or.inl rfl))) (pssd_one (psd_set (i := 1) sc_law_start.nd rfl (Or.inl rfl) (pd_op op_modD (pd_op op_addD (pd_op op_addD (pd_op op_addD (pd_op op_mulD (pdv 1) pd_int) (pd_op op_modD (pd_callT call_intG rfl T.n_int bt_int (pad_cons (pd_ix ix_K (pdv 0) (pdv 2) (fun _ _ => rfl)) pad_nil)) pd_int)) (pdv 2)) pd_int) pd_int))))
    (pssd_one (psd_ret (pd_lst (pad_cons (pdv 1) (pad_cons (pd_callT call_lstK rfl T.n_list bt_list (pad_cons (pdv 0) pad_nil)) (pad_cons pd_int (pad_cons pd_int pad_nil))))))))), h⟩
def t_law_pick (K : PySem.W.Frag) (A : Adr) : DS :=
  (dSeq (dIfS (dB (dOp (oI0 fun i j => .bl (decide (j ≤ i))) (dOp ixG (dVar 0) (dC (.int 3))) (dVar 1))) (dSeq (dAsg (dCB intG (dCons (dOp ixG (dVar 0) (dC (.int 3))) dNil)) (dName 2))
    (dSeq (dAsg (dOp (oI CDivW fun i j => .int (i / j)) (dVar 2) (dVar 1)) (dGSub (dVar 0) (dC (.int 3))))
    (dRet (dOp (oI (fun _ j => 0 < j) fun i j => .int (i % j)) (dVar 2) (dVar 1))))) dNext)
    (dSeq (dAsg (dC (.int 11)) (dName 3))
    (dSeq (dIfS (dB (dOp (oI0 fun i j => .bl (decide (i < j))) (dOp ixG (dVar 0) (dC (.int 2))) (dCB lenG (dCons (dOp ixG (dVar 0) (dC (.int 1))) dNil)))) (dSeq (dAsg (dCB intG (dCons (dOp ixG (dOp ixG (dVar 0) (dC (.int 1))) (dOp ixG (dVar 0) (dC (.int 2)))) dNil)) (dName 3))
    (dSeq (dAsg (dOp addD (dOp ixG (dVar 0) (dC (.int 2))) (dC (.int 1))) (dGSub (dVar 0) (dC (.int 2))))
    (dSeq (dIfS (dB (dOp (oI0 fun i j => .bl (decide (i < j))) (dVar 3) (dC (.int 0)))) (dAsg (dOp (oI0 fun i j => .int (i - j)) (dC (.int 1)) (dVar 3)) (dName 3)) dNext)
    (dIfS (dB (dOp (oI0 fun i j => .bl (decide (j ≤ i))) (dVar 3) (dOp (oI CPow fun i j => .int (i ^ j.toNat)) (dC (.int 10)) (dC (.int 18))))) (dSeq (dAsg (dOp (oI CDivW fun i j => .int (i / j)) (dVar 3) (dVar 1)) (dGSub (dVar 0) (dC (.int 3))))
    (dRet (dOp (oI (fun _ j => 0 < j) fun i j => .int (i % j)) (dVar 3) (dVar 1)))) dNext)))) dNext)
    (dSeq (dAsg (dOp (oI (fun _ j => 0 < j) fun i j => .int (i % j)) (dOp mulD (dOp addD (dOp addD (dCB intG (dCons (dOp ixG (dVar 0) (dC (.int 0))) dNil)) (dOp (oI (fun _ j => 0 < j) fun i j => .int (i % j)) (dVar 3) (dC (.int 2147483647)))) (dC (.int 1))) (dC (.int 48271))) (dC (.int 2147483647))) (dName 4))
    (dSeq (dAsg (dOp (oI (fun _ j => 0 < j) fun i j => .int (i % j)) (dOp addD (dOp mulD (dVar 4) (dC (.int 69621))) (dC (.int 12345))) (dC (.int 2147483647))) (dGSub (dVar 0) (dC (.int 0))))
    (dRet (dOp (oI (fun _ j => 0 < j) fun i j => .int (i % j)) (dOp (oI CDivW fun i j => .int (i / j)) (dCB intG (dCons (dOp ixG (dVar 0) (dC (.int 0))) dNil)) (dC (.int 7))) (dVar 1))))))))
theorem ok_law_pick {f : Addr} {fd : FuncData} (T : Txt w K mg A)  (F : L2.Fun K "_law_pick" "_law_pick" s_law_pick f fd) (sp : DSp) (len : ∀ ds M Q E, sp ds M Q E → ds.length = P_law_pick.length) (h : ∀ ds M Q E, sp ds M Q E → t_law_pick K A (ends Q E) (dstart N_law_pick ds) M) :
    FnOk P w K mg base (L2.CX P w) (0 + 1) f fd P_law_pick (liftSp K sp) :=
  okD F sc_law_pick len fun cdv Ar outer s H E hr tk => ⟨t_law_pick K _, (pssd_cons (psd_if (pt_cmpD op_geD (pd_ix ix_G (pdv 0) pd_int (fun _ _ => rfl)) (pdv 1) (nomark _)) (pssd_cons (psd_set (i := 2) sc_law_pick.nd rfl (Or.inl rfl) (pd_callT call_intG rfl T.n_int bt_int (pad_cons (pd_ix ix_G (pdv 0) pd_int (fun _ _ => rfl)) pad_nil)))
    (pssd_cons (psd_asg (pd_op op_fdivD (pdv 2) (pdv 1)) (pgd_sub (pdv 0) pd_int))
    (pssd_one (psd_ret (pd_op op_modD (pdv 2) (pdv 1)))))) pssd_nil)
    (pssd_cons (psd_set (i := 3) sc_law_pick.nd rfl (Or.inl rfl) pd_int)
    (pssd_cons (psd_if (pt_cmpD op_ltD (pd_ix ix_G (pdv 0) pd_int (fun _ _ => rfl)) (pd_callB call_lenG rfl T.n_len bt_len (pad_cons (pd_ix ix_G (pdv 0) pd_int (fun _ _ => rfl)) pad_nil)) (nomark _)) (pssd_cons (psd_set (i := 3) sc_law_pick.nd rfl (Or.inl rfl) (pd_callT call_intG rfl T.n_int bt_int (pad_cons (pd_ix ix_G (pd_ix ix_G (pdv 0) pd_int (fun _ _ => rfl)) (pd_ix ix_G (pdv 0) pd_int (fun _ _ => rfl)) (fun _ _ => rfl)) pad_nil)))
    (pssd_cons (psd_asg (pd_op op_addD (pd_ix ix_G (pdv 0) pd_int (fun _ _ => rfl)) pd_int) (pgd_sub (pdv 0) pd_int))
    (pssd_cons (psd_if (pt_cmpD op_ltD (pdv 3) pd_int (nomark _)) (pssd_one (psd_set (i := 3) sc_law_pick.nd rfl (Or.inl rfl) (pd_op op_subD pd_int (pdv 3)))) pssd_nil)
    (pssd_one (psd_if (pt_cmpD op_geD (pdv 3) (pd_op op_powD pd_int pd_int) (nomark _)) (pssd_cons (psd_asg (pd_op op_fdivD (pdv 3) (pdv 1)) (pgd_sub (pdv 0) pd_int))
    (pssd_one (psd_ret (pd_op op_modD (pdv 3) (pdv 1))))) pssd_nil))))) pssd_nil)
    (pssd_cons (psd_set (i := 4) sc_law_pick.nd rfl (Or.inl rfl) (pd_op op_modD (pd_op op_mulD (pd_op op_addD (pd_op op_addD (pd_callT call_intG rfl T.n_int bt_int (pad_cons (pd_ix ix_G (pdv 0) pd_int (fun _ _ => rfl)) pad_nil)) (pd_op op_modD (pdv 3) pd_int)) pd_int) pd_int) pd_int))
    (pssd_cons (psd_asg (pd_op op_modD (pd_op op_addD (pd_op op_mulD (pdv 4) pd_int) pd_int) pd_int) (pgd_sub (pdv 0) pd_int))
    (pssd_one (psd_ret (pd_op op_modD (pd_op op_fdivD (pd_callT call_intG rfl T.n_int bt_int (pad_cons (pd_ix ix_G (pdv 0) pd_int (fun _ _ => rfl)) pad_nil)) pd_int) (pdv 1))))))))), h⟩
def t_law_same (K : PySem.W.Frag) (A : Adr) (n : Nat) : DS :=
  (dSeq (dIfS (dTru (dCB (isiG K) (dCons (dVar 1) (dCons (dC (.ty "tuple")) dNil)))) (dSeq (dIfS (dOr (dNot (dTru (dCB (isiG K) (dCons (dVar 0) (dCons (dC (.ty "tuple")) dNil))))) (dB (dOp neD (dCB lenG (dCons (dVar 0) dNil)) (dCB lenG (dCons (dVar 1) dNil))))) (dRet (dC (.bl false))) dNext)
    (dRet (dCB (allG fun bs => bs.all id) (dCons (dLc (dRng1 (dCons (dCB lenG (dCons (dVar 1) dNil)) dNil)) (fun d τ => τ.set 2 (some d)) dYes (dCall (sp_law_same n) [] (dCons (dOp ixG (dVar 0) (dVar 2)) (dCons (dOp ixG (dVar 1) (dVar 2)) dNil))) [2]) dNil)))) dNext)
    (dSeq (dIfS (dB (dOp (isG false) (dVar 1) (dC .non))) (dRet (dOp (isG false) (dVar 0) (dC .non))) dNext)
    (dSeq (dIfS (dTru (dCB (isiG K) (dCons (dVar 1) (dCons (dC (.ty "str")) dNil)))) (dRet (dAndV (dCB (isiG K) (dCons (dVar 0) (dCons (dC (.ty "str")) dNil))) (dOp eqD (dVar 0) (dVar 1)))) dNext)
    (dSeq (dIfS (dTru (dCB (isiG K) (dCons (dVar 1) (dCons (dC (.ty "bool")) dNil)))) (dRet (dAndV (dCB (isiG K) (dCons (dVar 0) (dCons (dC (.ty "bool")) dNil))) (dOp eqD (dVar 0) (dVar 1)))) dNext)
    (dRet (dAndV (dCB (isiG K) (dCons (dVar 0) (dCons (dC (.ty "int")) dNil))) (dAndV (dNotV (dCB (isiG K) (dCons (dVar 0) (dCons (dC (.ty "bool")) dNil)))) (dOp eqD (dVar 0) (dVar 1)))))))))
theorem ok_law_same {f : Addr} {fd : FuncData} {n : Nat} (T : Txt w K mg A) (G_law_same : FnD P w K mg base (0 + n) "_law_same" P_law_same [] (sp_law_same n)) (F : L2.Fun K "_law_same" "_law_same" s_law_same f fd) (sp : DSp) (len : ∀ ds M Q E, sp ds M Q E → ds.length = P_law_same.length) (h : ∀ ds M Q E, sp ds M Q E → t_law_same K A n (ends Q E) (dstart N_law_same ds) M) :
    FnOk P w K mg base (L2.CX P w) (0 + n + 1) f fd P_law_same (liftSp K sp) :=
  okD F sc_law_same len fun cdv Ar outer s H E hr tk => ⟨t_law_same K _ n, (pssd_cons (psd_if (ptd_tru (pd_callB call_isiG rfl T.n_isinstance bt_isinstance (pad_cons (pdv 1) (pad_cons (pd_ty rfl T.n_tuple bt_tuple) pad_nil)))) (pssd_cons (psd_if (PWD.pt (pwd_or (ptd_not (ptd_tru (pd_callB call_isiG rfl T.n_isinstance bt_isinstance (pad_cons (pdv 0) (pad_cons (pd_ty rfl T.n_tuple bt_tuple) pad_nil))))) (pwd_or1 (pt_cmpD (op_neG (u200 hr)) (pd_callB call_lenG rfl T.n_len bt_len (pad_cons (pdv 0) pad_nil)) (pd_callB call_lenG rfl T.n_len bt_len (pad_cons (pdv 1) pad_nil)) (nomark _))))) (pssd_one (psd_ret pd_bl)) pssd_nil)
    (pssd_one (psd_ret (pd_callB (call_allG rfl) rfl T.n_all bt_all (pad_cons (pd_lc (own := [("p", 2)]) (i := 2) rfl sc_law_same.nd (pid_rng1 rfl T.n_range (pad_cons (pd_callB call_lenG rfl T.n_len bt_len (pad_cons (pdv 1) pad_nil)) pad_nil)) (blkOk_by (N := N_law_same) (sc := defScope s_law_same) (by decide +kernel)) (by decide) (fun _ _ _ _ _ => pg_name (i := 2) sc_law_same.nd rfl (Or.inl rfl)) (fun _ _ _ _ _ => ptsd_nil) (fun _ _ _ _ _ => (pd_call G_law_same (hr.mono (by omega)) tk0 rfl (pad_cons (pd_ix ix_G (pdv 0) (pdv 2) (fun _ _ => rfl)) (pad_cons (pd_ix ix_G (pdv 1) (pdv 2) (fun _ _ => rfl)) pad_nil))))) pad_nil))))) pssd_nil)
    (pssd_cons (psd_if (pt_cmpD op_isG (pdv 1) pd_non (nomark _)) (pssd_one (psd_ret (pd_cmp op_isG (pdv 0) pd_non (nomark _)))) pssd_nil)
    (pssd_cons (psd_if (ptd_tru (pd_callB call_isiG rfl T.n_isinstance bt_isinstance (pad_cons (pdv 1) (pad_cons (pd_ty rfl T.n_str bt_str) pad_nil)))) (pssd_one (psd_ret (pd_and (pd_callB call_isiG rfl T.n_isinstance bt_isinstance (pad_cons (pdv 0) (pad_cons (pd_ty rfl T.n_str bt_str) pad_nil))) (pd_one (pd_cmp (op_eqG (u200 hr)) (pdv 0) (pdv 1) (nomark _)))))) pssd_nil)
    (pssd_cons (psd_if (ptd_tru (pd_callB call_isiG rfl T.n_isinstance bt_isinstance (pad_cons (pdv 1) (pad_cons (pd_ty rfl T.n_bool bt_bool) pad_nil)))) (pssd_one (psd_ret (pd_and (pd_callB call_isiG rfl T.n_isinstance bt_isinstance (pad_cons (pdv 0) (pad_cons (pd_ty rfl T.n_bool bt_bool) pad_nil))) (pd_one (pd_cmp (op_eqG (u200 hr)) (pdv 0) (pdv 1) (nomark _)))))) pssd_nil)
    (pssd_one (psd_ret (pd_and (pd_callB call_isiG rfl T.n_isinstance bt_isinstance (pad_cons (pdv 0) (pad_cons (pd_ty rfl T.n_int bt_int) pad_nil))) (pd_and (pd_not (pd_callB call_isiG rfl T.n_isinstance bt_isinstance (pad_cons (pdv 0) (pad_cons (pd_ty rfl T.n_bool bt_bool) pad_nil)))) (pd_one (pd_cmp (op_eqG (u200 hr)) (pdv 0) (pdv 1) (nomark _))))))))))), h⟩
def t_law_tree (K : PySem.W.Frag) (A : Adr) (n : Nat) : DS :=
  (dSeq (dIfS (dOr (dB (dOp eqD (dVar 1) (dC (.int 0)))) (dB (dOp eqD (dOp ixG (dVar 2) (dC (.int 0))) (dC (.int 0))))) (dRet (dTup (dCons (dC (.str "end")) (dCons (dCall sp_law_pick [] (dCons (dVar 0) (dCons (dC (.int 2)) dNil))) dNil)))) dNext)
    (dSeq (dAsg (dCB (mmG fun i j => if j < i then j else i) (dCons (dOp addD (dC (.int 1)) (dOp ixG (dVar 2) (dC (.int 1)))) (dCons (dOp ixG (dLst (dCons (dC (.int 1)) (dCons (dC (.int 2)) (dCons (dC (.int 2)) (dCons (dC (.int 2)) (dCons (dC (.int 3)) (dCons (dC (.int 3)) (dCons (dC (.int 5)) (dCons (dC (.int 12)) dNil))))))))) (dCall sp_law_pick [] (dCons (dVar 0) (dCons (dC (.int 8)) dNil)))) dNil))) (dName 3))
    (dSeq (dAsg (dOp (oI0 fun i j => .int (i - j)) (dOp ixG (dVar 2) (dC (.int 0))) (dC (.int 1))) (dGSub (dVar 2) (dC (.int 0))))
    (dSeq (dAsg (dOp (oI0 fun i j => .int (i - j)) (dOp ixG (dVar 2) (dC (.int 1))) (dOp (oI0 fun i j => .int (i - j)) (dVar 3) (dC (.int 1)))) (dGSub (dVar 2) (dC (.int 1))))
    (dSeq (dAsg (dLst dNil) (dName 4))
    (dSeq (dFor (dRng1 (dCons (dVar 3) dNil)) (dName 5) (dSeq (dAsg (dOp (oI0 fun i j => .int (i - j)) (dVar 1) (dC (.int 1))) (dName 6))
    (dSeq (dIfS (dB (dOp eqD (dCall sp_law_pick [] (dCons (dVar 0) (dCons (dC (.int 4)) dNil))) (dC (.int 0)))) (dAsg (dC (.int 0)) (dName 6)) dNext)
    (dDrop (dBM "list" appendM (dVar 4) (dCons (dCall (sp_law_tree n) [] (dCons (dVar 0) (dCons (dVar 6) (dCons (dVar 2) dNil)))) dNil))))))
    (dSeq (dIfS (dB (dOp eqD (dCall sp_law_pick [] (dCons (dVar 0) (dCons (dC (.int 2)) dNil))) (dC (.int 0)))) (dDrop (dBM "list" reverseM (dVar 4) dNil)) dNext)
    (dRet (dOp addD (dTup (dCons (dC (.str "node")) (dCons (dCall sp_law_pick [] (dCons (dVar 0) (dCons (dC (.int 2)) dNil))) dNil))) (dCB tupG (dCons (dVar 4) dNil)))))))))))
theorem ok_law_tree {f : Addr} {fd : FuncData} {n : Nat} (T : Txt w K mg A) (G_law_pick : FnD P w K mg base 1 "_law_pick" P_law_pick [] sp_law_pick) (G_law_tree : FnD P w K mg base (1 + n) "_law_tree" P_law_tree [] (sp_law_tree n)) (F : L2.Fun K "_law_tree" "_law_tree" s_law_tree f fd) (sp : DSp) (len : ∀ ds M Q E, sp ds M Q E → ds.length = P_law_tree.length) (h : ∀ ds M Q E, sp ds M Q E → t_law_tree K A n (ends Q E) (dstart N_law_tree ds) M) :
    FnOk P w K mg base (L2.CX P w) (1 + n + 1) f fd P_law_tree (liftSp K sp) :=
  okD F sc_law_tree len fun cdv Ar outer s H E hr tk => ⟨t_law_tree K _ n, (pssd_cons (psd_if (PWD.pt (pwd_or (pt_cmpD (op_eqG (u200 hr)) (pdv 1) pd_int (nomark _)) (pwd_or1 (pt_cmpD (op_eqG (u200 hr)) (pd_ix ix_G (pdv 2) pd_int (fun _ _ => rfl)) pd_int (nomark _))))) (pssd_one (psd_ret (pd_tup (pad_cons pd_str (pad_cons (pd_call G_law_pick (hr.mono (by omega)) tk rfl (pad_cons (pdv 0) (pad_cons pd_int pad_nil))) pad_nil))))) pssd_nil)
    (pssd_cons (psd_set (i := 3) sc_law_tree.nd rfl (Or.inl rfl) (pd_callB (call_minG rfl) rfl T.n_min bt_min (pad_cons (pd_op op_addD pd_int (pd_ix ix_G (pdv 2) pd_int (fun _ _ => rfl))) (pad_cons (pd_ix ix_G (pd_lst (pad_cons pd_int (pad_cons pd_int (pad_cons pd_int (pad_cons pd_int (pad_cons pd_int (pad_cons pd_int (pad_cons pd_int (pad_cons pd_int pad_nil))))))))) (pd_call G_law_pick (hr.mono (by omega)) tk rfl (pad_cons (pdv 0) (pad_cons pd_int pad_nil))) (fun _ _ => rfl)) pad_nil))))
    (pssd_cons (psd_asg (pd_op op_subD (pd_ix ix_G (pdv 2) pd_int (fun _ _ => rfl)) pd_int) (pgd_sub (pdv 2) pd_int))
    (pssd_cons (psd_asg (pd_op op_subD (pd_ix ix_G (pdv 2) pd_int (fun _ _ => rfl)) (pd_op op_subD (pdv 3) pd_int)) (pgd_sub (pdv 2) pd_int))
    (pssd_cons (psd_set (i := 4) sc_law_tree.nd rfl (Or.inl rfl) (pd_lst pad_nil))
    (pssd_cons (psd_for (passes_of rfl) rfl (pid_rng1 rfl T.n_range (pad_cons (pdv 3) pad_nil)) (pgd_name (pg_name (i := 5) sc_law_tree.nd rfl (Or.inl rfl))) (pssd_cons (psd_set (i := 6) sc_law_tree.nd rfl (Or.inl rfl) (pd_op op_subD (pdv 1) pd_int))
    (pssd_cons (psd_if (pt_cmpD (op_eqG (u200 hr)) (pd_call G_law_pick (hr.mono (by omega)) tk rfl (pad_cons (pdv 0) (pad_cons pd_int pad_nil))) pd_int (nomark _)) (pssd_one (psd_set (i := 6) sc_law_tree.nd rfl (Or.inl rfl) pd_int)) pssd_nil)
    (pssd_one (psd_expr (pd_bm PySem.F.plainAttrs_list PySem.F.slot_list_append PySem.F.type_list_append mt_appendM (pdv 4) (pad_cons (pd_call G_law_tree (hr.mono (by omega)) tk rfl (pad_cons (pdv 0) (pad_cons (pdv 6) (pad_cons (pdv 2) pad_nil)))) pad_nil)))))))
    (pssd_cons (psd_if (pt_cmpD (op_eqG (u200 hr)) (pd_call G_law_pick (hr.mono (by omega)) tk rfl (pad_cons (pdv 0) (pad_cons pd_int pad_nil))) pd_int (nomark _)) (pssd_one (psd_expr (pd_bm0 PySem.F.plainAttrs_list PySem.F.slot_list_reverse PySem.F.type_list_reverse mt_reverseM (pdv 4)))) pssd_nil)
    (pssd_one (psd_ret (pd_op op_addD (pd_tup (pad_cons pd_str (pad_cons (pd_call G_law_pick (hr.mono (by omega)) tk rfl (pad_cons (pdv 0) (pad_cons pd_int pad_nil))) pad_nil))) (pd_callT call_tupG rfl T.n_tuple bt_tuple (pad_cons (pdv 4) pad_nil)))))))))))), h⟩
def t_law_scan (K : PySem.W.Frag) (A : Adr) (n : Nat) : DS :=
  (dSeq (dIfS (dB (dOp eqD (dOp ixG (dVar 0) (dC (.int 0))) (dC (.str "end")))) (dSeq (dDrop (dBM "list" appendM (dVar 2) (dCons (dOp ixG (dVar 0) (dC (.int 1))) dNil)))
    (dRet (dTup (dCons (dC (.int 0)) (dCons (dOp (oI0 fun i j => .int (i - j)) (dCB lenG (dCons (dVar 2) dNil)) (dC (.int 1))) dNil))))) dNext)
    (dSeq (dAsg (dLst dNil) (dName 3))
    (dSeq (dAsg (dCB lenG (dCons (dVar 1) dNil)) (dName 4))
    (dSeq (dDrop (dBM "list" appendM (dVar 1) (dCons (dLst (dCons (dOp ixG (dVar 0) (dC (.int 1))) (dCons (dVar 3) dNil))) dNil)))
    (dSeq (dFor (dIter (dSl (dVar 0) (dPart (dC (.int 2))) dNoP)) (dName 5) (dDrop (dBM "list" appendM (dVar 3) (dCons (dCall (sp_law_scan n) [] (dCons (dVar 5) (dCons (dVar 1) (dCons (dVar 2) dNil)))) dNil))))
    (dRet (dTup (dCons (dC (.int 1)) (dCons (dVar 4) dNil)))))))))
theorem ok_law_scan {f : Addr} {fd : FuncData} {n : Nat} (T : Txt w K mg A) (G_law_scan : FnD P w K mg base (0 + n) "_law_scan" P_law_scan [] (sp_law_scan n)) (F : L2.Fun K "_law_scan" "_law_scan" s_law_scan f fd) (sp : DSp) (len : ∀ ds M Q E, sp ds M Q E → ds.length = P_law_scan.length) (h : ∀ ds M Q E, sp ds M Q E → t_law_scan K A n (ends Q E) (dstart N_law_scan ds) M) :
    FnOk P w K mg base (L2.CX P w) (0 + n + 1) f fd P_law_scan (liftSp K sp) :=
  okD F sc_law_scan len fun cdv Ar outer s H E hr tk => ⟨t_law_scan K _ n, (pssd_cons (psd_if (pt_cmpD (op_eqG (u200 hr)) (pd_ix ix_G (pdv 0) pd_int (fun _ _ => rfl)) pd_str (nomark _)) (pssd_cons (psd_expr (pd_bm PySem.F.plainAttrs_list PySem.F.slot_list_append PySem.F.type_list_append mt_appendM (pdv 2) (pad_cons (pd_ix ix_G (pdv 0) pd_int (fun _ _ => rfl)) pad_nil)))
    (pssd_one (psd_ret (pd_tup (pad_cons pd_int (pad_cons (pd_op op_subD (pd_callB call_lenG rfl T.n_len bt_len (pad_cons (pdv 2) pad_nil)) pd_int) pad_nil)))))) pssd_nil)
    (pssd_cons (psd_set (i := 3) sc_law_scan.nd rfl (Or.inl rfl) (pd_lst pad_nil))
    (pssd_cons (psd_set (i := 4) sc_law_scan.nd rfl (Or.inl rfl) (pd_callB call_lenG rfl T.n_len bt_len (pad_cons (pdv 1) pad_nil)))
    (pssd_cons (psd_expr (pd_bm PySem.F.plainAttrs_list PySem.F.slot_list_append PySem.F.type_list_append mt_appendM (pdv 1) (pad_cons (pd_lst (pad_cons (pd_ix ix_G (pdv 0) pd_int (fun _ _ => rfl)) (pad_cons (pdv 3) pad_nil))) pad_nil)))
    (pssd_cons (psd_for (passes_of rfl) rfl (pid_any (pd_slice (pdv 0) (pod_some pd_int) pod_none)) (pgd_name (pg_name (i := 5) sc_law_scan.nd rfl (Or.inl rfl))) (pssd_one (psd_expr (pd_bm PySem.F.plainAttrs_list PySem.F.slot_list_append PySem.F.type_list_append mt_appendM (pdv 3) (pad_cons (pd_call G_law_scan (hr.mono (by omega)) tk rfl (pad_cons (pdv 5) (pad_cons (pdv 1) (pad_cons (pdv 2) pad_nil)))) pad_nil)))))
    (pssd_one (psd_ret (pd_tup (pad_cons pd_int (pad_cons (pdv 4) pad_nil)))))))))), h⟩
def t_law_at (K : PySem.W.Frag) (A : Adr) : DS :=
  (dSeq (dIfS (dB (dOp eqD (dOp ixG (dVar 0) (dC (.int 0))) (dC (.int 0)))) (dRet (dOp ixG (dVar 2) (dOp ixG (dVar 0) (dC (.int 1))))) dNext)
    (dRet (dOp ixG (dVar 1) (dOp ixG (dVar 0) (dC (.int 1))))))
theorem ok_law_at {f : Addr} {fd : FuncData} (T : Txt w K mg A)  (F : L2.Fun K "_law_at" "_law_at" s_law_at f fd) (sp : DSp) (len : ∀ ds M Q E, sp ds M Q E → ds.length = P_law_at.length) (h : ∀ ds M Q E, sp ds M Q E → t_law_at K A (ends Q E) (dstart N_law_at ds) M) :
    FnOk P w K mg base (L2.CX P w) (0 + 1) f fd P_law_at (liftSp K sp) :=
  okD F sc_law_at len fun cdv Ar outer s H E hr tk => ⟨t_law_at K _, (pssd_cons (psd_if (pt_cmpD (op_eqG (u200 hr)) (pd_ix ix_G (pdv 0) pd_int (fun _ _ => rfl)) pd_int (nomark _)) (pssd_one (psd_ret (pd_ix ix_G (pdv 2) (pd_ix ix_G (pdv 0) pd_int (fun _ _ => rfl)) (fun _ _ => rfl)))) pssd_nil)
    (pssd_one (psd_ret (pd_ix ix_G (pdv 1) (pd_ix ix_G (pdv 0) pd_int (fun _ _ => rfl)) (fun _ _ => rfl))))), h⟩
def t_law_winners (K : PySem.W.Frag) (A : Adr) : DS :=
  (dSeq (dAsg (dLc (dIter (dVar 0)) (fun d τ => τ.set 7 (some d)) dYes (dC (.int 0)) [7]) (dName 2))
    (dSeq (dFor (dRng1 (dCons (dCB lenG (dCons (dVar 0) dNil)) dNil)) (dName 3) (dSeq (dAsg (dOp (oI0 fun i j => .int (i - j)) (dOp (oI0 fun i j => .int (i - j)) (dCB lenG (dCons (dVar 0) dNil)) (dC (.int 1))) (dVar 3)) (dName 4))
    (dSeq (dAsg (dOp ixG (dOp ixG (dVar 0) (dVar 4)) (dC (.int 0))) (dName 5))
    (dSeq (dAsg (dLc (dIter (dOp ixG (dOp ixG (dVar 0) (dVar 4)) (dC (.int 1)))) (fun d τ => τ.set 8 (some d)) dYes (dCall sp_law_at [] (dCons (dVar 8) (dCons (dVar 2) (dCons (dVar 1) dNil)))) [8]) (dName 6))
    (dSeq (dAsg (dOp (oI0 fun i j => .int (i - j)) (dC (.int 1)) (dVar 5)) (dGSub (dVar 2) (dVar 4)))
    (dIfS (dB (dOp (inG false) (dVar 5) (dVar 6))) (dAsg (dVar 5) (dGSub (dVar 2) (dVar 4))) dNext))))))
    (dRet (dVar 2))))
theorem ok_law_winners {f : Addr} {fd : FuncData} (T : Txt w K mg A) (G_law_at : FnD P w K mg base 1 "_law_at" P_law_at [] sp_law_at) (F : L2.Fun K "_law_winners" "_law_winners" s_law_winners f fd) (sp : DSp) (len : ∀ ds M Q E, sp ds M Q E → ds.length = P_law_winners.length) (h : ∀ ds M Q E, sp ds M Q E → t_law_winners K A (ends Q E) (dstart N_law_winners ds) M) :
    FnOk P w K mg base (L2.CX P w) (1 + 1) f fd P_law_winners (liftSp K sp) :=
  okD F sc_law_winners len fun cdv Ar outer s H E hr tk => ⟨t_law_winners K _, (pssd_cons (psd_set (i := 2) sc_law_winners.nd rfl (Or.inr rfl) (pd_lc (own := [("node", 7)]) (i := 7) rfl sc_law_winners.nd (pid_any (pdv 0)) (blkOk_by (N := N_law_winners) (sc := defScope s_law_winners) (by decide +kernel)) (by decide) (fun _ _ _ _ _ => pg_name (i := 7) sc_law_winners.nd rfl (Or.inl rfl)) (fun _ _ _ _ _ => ptsd_nil) (fun _ _ _ _ _ => pd_int)))
    (pssd_cons (psd_for (passes_of rfl) rfl (pid_rng1 rfl T.n_range (pad_cons (pd_callB call_lenG rfl T.n_len bt_len (pad_cons (pdv 0) pad_nil)) pad_nil)) (pgd_name (pg_name (i := 3) sc_law_winners.nd rfl (Or.inl rfl))) (pssd_cons (psd_set (i := 4) sc_law_winners.nd rfl (Or.inl rfl) (pd_op op_subD (pd_op op_subD (pd_callB call_lenG rfl T.n_len bt_len (pad_cons (pdv 0) pad_nil)) pd_int) (pdv 3)))
    (pssd_cons (psd_set (i := 5) sc_law_winners.nd rfl (Or.inl rfl) (pd_ix ix_G (pd_ix ix_G (pdv 0) (pdv 4) (fun _ _ => rfl)) pd_int (fun _ _ => rfl)))
    (pssd_cons (psd_setLc (own := [("child", 8)]) (i := 8) (j := 6) rfl sc_law_winners.nd rfl rfl (sw_true rfl rfl rfl (by decide +kernel)) (pid_any (pd_ix ix_G (pd_ix ix_G (pdv 0) (pdv 4) (fun _ _ => rfl)) pd_int (fun _ _ => rfl))) (blkOk_by (N := N_law_winners) (sc := defScope s_law_winners) (by decide +kernel)) (by decide) (fun _ _ _ _ _ => pg_name (i := 8) sc_law_winners.nd rfl (Or.inl rfl)) (fun _ _ _ _ _ => ptsd_nil) (fun _ _ _ _ _ => (pd_call G_law_at (hr.mono (by omega)) tk0 rfl (pad_cons (pdv 8) (pad_cons (pdv 2) (pad_cons (pdv 1) pad_nil))))))
    (pssd_cons (psd_asg (pd_op op_subD pd_int (pdv 5)) (pgd_sub (pdv 2) (pdv 4)))
    (pssd_one (psd_if (pt_cmpD op_inG (pdv 5) (pdv 6) (by with_unfolding_all rfl)) (pssd_one (psd_asg (pdv 5) (pgd_sub (pdv 2) (pdv 4)))) pssd_nil)))))))
    (pssd_one (psd_ret (pdv 2))))), h⟩
def t_law_lots (K : PySem.W.Frag) (A : Adr) (n : Nat) : DS :=
  (dSeq (dAsg (dLst (dCons (dTup dNil) dNil)) (dName 2))
    (dSeq (dFor (dRng2 (dCons (dVar 0) (dCons (dVar 1) dNil))) (dName 3) (dAsg (dOp addD (dVar 2) (dLc (dIter (dCall (sp_law_lots n) [] (dCons (dOp addD (dVar 3) (dC (.int 1))) (dCons (dVar 1) dNil)))) (fun d τ => τ.set 4 (some d)) dYes (dOp addD (dTup (dCons (dVar 3) dNil)) (dVar 4)) [4])) (dName 2)))
    (dRet (dVar 2))))
theorem ok_law_lots {f : Addr} {fd : FuncData} {n : Nat} (T : Txt w K mg A) (G_law_lots : FnD P w K mg base (0 + n) "_law_lots" P_law_lots [] (sp_law_lots n)) (F : L2.Fun K "_law_lots" "_law_lots" s_law_lots f fd) (sp : DSp) (len : ∀ ds M Q E, sp ds M Q E → ds.length = P_law_lots.length) (h : ∀ ds M Q E, sp ds M Q E → t_law_lots K A n (ends Q E) (dstart N_law_lots ds) M) :
    FnOk P w K mg base (L2.CX P w) (0 + n + 1) f fd P_law_lots (liftSp K sp) :=
  okD F sc_law_lots len fun cdv Ar outer s H E hr tk => ⟨t_law_lots K _ n, (pssd_cons (psd_set (i := 2) sc_law_lots.nd rfl (Or.inl rfl) (pd_lst (pad_cons (pd_tup pad_nil) pad_nil)))
    (pssd_cons (psd_for (passes_of rfl) rfl (pid_rng2 rfl T.n_range (pad_cons (pdv 0) (pad_cons (pdv 1) pad_nil))) (pgd_name (pg_name (i := 3) sc_law_lots.nd rfl (Or.inr rfl))) (pssd_one (psd_set (i := 2) sc_law_lots.nd rfl (Or.inl rfl) (pd_op op_addD (pdv 2) (pd_lc (own := [("lot", 4)]) (i := 4) rfl sc_law_lots.nd (pid_any (pd_call G_law_lots (hr.mono (by omega)) tk rfl (pad_cons (pd_op op_addD (pdv 3) pd_int) (pad_cons (pdv 1) pad_nil)))) (blkOk_by (N := N_law_lots) (sc := defScope s_law_lots) (by decide +kernel)) (by decide) (fun _ _ _ _ _ => pg_name (i := 4) sc_law_lots.nd rfl (Or.inl rfl)) (fun _ _ _ _ _ => ptsd_nil) (fun _ _ _ _ _ => (pd_op op_addD (pd_tup (pad_cons (pdv 3) pad_nil)) (pdv 4))))))))
    (pssd_one (psd_ret (pdv 2))))), h⟩
def t_law_parting (K : PySem.W.Frag) (A : Adr) : DS :=
  (dSeq (dAsg (dLst (dCons (dC (.int 1)) (dCons (dC (.int 2)) (dCons (dC (.int 4)) (dCons (dC (.int 8)) (dCons (dC (.int 16)) (dCons (dC (.int 32)) (dCons (dC (.int 64)) dNil)))))))) (dName 3))
    (dSeq (dAsg (dCall sp_law_at [] (dCons (dVar 1) (dCons (dCall sp_law_winners [] (dCons (dVar 0) (dCons (dVar 2) dNil))) (dCons (dVar 2) dNil)))) (dName 4))
    (dSeq (dAsg (dLst dNil) (dName 5))
    (dSeq (dFor (dRng2 (dCons (dC (.int 1)) (dCons (dOp ixG (dVar 3) (dCB lenG (dCons (dVar 2) dNil))) dNil))) (dName 6) (dSeq (dAsg (dLc (dRng1 (dCons (dCB lenG (dCons (dVar 2) dNil)) dNil)) (fun d τ => τ.set 8 (some d)) dYes (dOp (oI (fun _ j => 0 < j) fun i j => .int (i % j)) (dCB intG (dCons (dOp addD (dOp ixG (dVar 2) (dVar 8)) (dOp (oI CDivW fun i j => .int (i / j)) (dVar 6) (dOp ixG (dVar 3) (dVar 8)))) dNil)) (dC (.int 2))) [8]) (dName 7))
    (dIfS (dB (dOp neD (dCall sp_law_at [] (dCons (dVar 1) (dCons (dCall sp_law_winners [] (dCons (dVar 0) (dCons (dVar 7) dNil))) (dCons (dVar 7) dNil)))) (dVar 4))) (dDrop (dBM "list" appendM (dVar 5) (dCons (dVar 6) dNil))) dNext)))
    (dRet (dVar 5))))))
theorem ok_law_parting {f : Addr} {fd : FuncData} (T : Txt w K mg A) (G_law_at : FnD P w K mg base 1 "_law_at" P_law_at [] sp_law_at) (G_law_winners : FnD P w K mg base 2 "_law_winners" P_law_winners [] sp_law_winners) (F : L2.Fun K "_law_parting" "_law_parting" s_law_parting f fd) (sp : DSp) (len : ∀ ds M Q E, sp ds M Q E → ds.length = P_law_parting.length) (h : ∀ ds M Q E, sp ds M Q E → t_law_parting K A (ends Q E) (dstart N_law_parting ds) M) :
    FnOk P w K mg base (L2.CX P w) (2 + 1) f fd P_law_parting (liftSp K sp) :=
  okD F sc_law_parting len fun cdv Ar outer s H E hr tk => ⟨t_law_parting K _, (pssd_cons (psd_set (i := 3) sc_law_parting.nd rfl (Or.inr rfl) (pd_lst (pad_cons pd_int (pad_cons pd_int (pad_cons pd_int (pad_cons pd_int (pad_cons pd_int (pad_cons pd_int (pad_cons pd_int pad_nil)))))))))
    (pssd_cons (psd_set (i := 4) sc_law_parting.nd rfl (Or.inl rfl) (pd_call G_law_at (hr.mono (by omega)) tk rfl (pad_cons (pdv 1) (pad_cons (pd_call G_law_winners (hr.mono (by omega)) tk rfl (pad_cons (pdv 0) (pad_cons (pdv 2) pad_nil))) (pad_cons (pdv 2) pad_nil)))))
    (pssd_cons (psd_set (i := 5) sc_law_parting.nd rfl (Or.inl rfl) (pd_lst pad_nil))
    (pssd_cons (psd_for (passes_of rfl) rfl (pid_rng2 rfl T.n_range (pad_cons pd_int (pad_cons (pd_ix ix_G (pdv 3) (pd_callB call_lenG rfl T.n_len bt_len (pad_cons (pdv 2) pad_nil)) (fun _ _ => rfl)) pad_nil))) (pgd_name (pg_name (i := 6) sc_law_parting.nd rfl (Or.inr rfl))) (pssd_cons (psd_setLc (own := [("leaf", 8)]) (i := 8) (j := 7) rfl sc_law_parting.nd rfl rfl (sw_true rfl rfl rfl (by decide +kernel)) (pid_rng1 rfl T.n_range (pad_cons (pd_callB call_lenG rfl T.n_len bt_len (pad_cons (pdv 2) pad_nil)) pad_nil)) (blkOk_by (N := N_law_parting) (sc := defScope s_law_parting) (by decide +kernel)) (by decide) (fun _ _ _ _ _ => pg_name (i := 8) sc_law_parting.nd rfl (Or.inl rfl)) (fun _ _ _ _ _ => ptsd_nil) (fun _ _ _ _ _ => (pd_op op_modD (pd_callT call_intG rfl T.n_int bt_int (pad_cons (pd_op op_addD (pd_ix ix_G (pdv 2) (pdv 8) (fun _ _ => rfl)) (pd_op op_fdivD (pdv 6) (pd_ix ix_G (pdv 3) (pdv 8) (fun _ _ => rfl)))) pad_nil)) pd_int)))
    (pssd_one (psd_if (pt_cmpD (op_neG (u200 hr)) (pd_call G_law_at (hr.mono (by omega)) tk rfl (pad_cons (pdv 1) (pad_cons (pd_call G_law_winners (hr.mono (by omega)) tk rfl (pad_cons (pdv 0) (pad_cons (pdv 7) pad_nil))) (pad_cons (pdv 7) pad_nil)))) (pdv 4) (nomark _)) (pssd_one (psd_expr (pd_bm PySem.F.plainAttrs_list PySem.F.slot_list_append PySem.F.type_list_append mt_appendM (pdv 5) (pad_cons (pdv 6) pad_nil)))) pssd_nil))))
    (pssd_one (psd_ret (pdv 5))))))), h⟩
def t_law_certifies (K : PySem.W.Frag) (A : Adr) : DS :=
  (dSeq (dAsg (dLst (dCons (dC (.int 1)) (dCons (dC (.int 2)) (dCons (dC (.int 4)) (dCons (dC (.int 8)) (dCons (dC (.int 16)) (dCons (dC (.int 32)) dNil))))))) (dName 2))
    (dSeq (dAsg (dCB sumG (dCons (dLc (dIter (dVar 0)) (fun d τ => τ.set 4 (some d)) dYes (dOp ixG (dVar 2) (dVar 4)) [4]) dNil)) (dName 3))
    (dRet (dCB (allG fun bs => bs.all id) (dCons (dLc (dIter (dVar 1)) (fun d τ => τ.set 5 (some d)) dYes (dOp (oI0 fun i j => .bl (decide (j < i))) (dOp (oI0 fun i j => .int (Builtin.bitAnd i j)) (dVar 5) (dVar 3)) (dC (.int 0))) [5]) dNil)))))
theorem ok_law_certifies {f : Addr} {fd : FuncData} (T : Txt w K mg A)  (F : L2.Fun K "_law_certifies" "_law_certifies" s_law_certifies f fd) (sp : DSp) (len : ∀ ds M Q E, sp ds M Q E → ds.length = P_law_certifies.length) (h : ∀ ds M Q E, sp ds M Q E → t_law_certifies K A (ends Q E) (dstart N_law_certifies ds) M) :
    FnOk P w K mg base (L2.CX P w) (0 + 1) f fd P_law_certifies (liftSp K sp) :=
  okD F sc_law_certifies len fun cdv Ar outer s H E hr tk => ⟨t_law_certifies K _, (pssd_cons (psd_set (i := 2) sc_law_certifies.nd rfl (Or.inr rfl) (pd_lst (pad_cons pd_int (pad_cons pd_int (pad_cons pd_int (pad_cons pd_int (pad_cons pd_int (pad_cons pd_int pad_nil))))))))
    (pssd_cons (psd_set (i := 3) sc_law_certifies.nd rfl (Or.inr rfl) (pd_callB (call_sumG rfl) rfl T.n_sum bt_sum (pad_cons (pd_lc (own := [("leaf", 4)]) (i := 4) rfl sc_law_certifies.nd (pid_any (pdv 0)) (blkOk_by (N := N_law_certifies) (sc := defScope s_law_certifies) (by decide +kernel)) (by decide) (fun _ _ _ _ _ => pg_name (i := 4) sc_law_certifies.nd rfl (Or.inl rfl)) (fun _ _ _ _ _ => ptsd_nil) (fun _ _ _ _ _ => (pd_ix ix_G (pdv 2) (pdv 4) (fun _ _ => rfl)))) pad_nil)))
    (pssd_one (psd_ret (pd_callB (call_allG rfl) rfl T.n_all bt_all (pad_cons (pd_lc (own := [("number", 5)]) (i := 5) rfl sc_law_certifies.nd (pid_any (pdv 1)) (blkOk_by (N := N_law_certifies) (sc := defScope s_law_certifies) (by decide +kernel)) (by decide) (fun _ _ _ _ _ => pg_name (i := 5) sc_law_certifies.nd rfl (Or.inl rfl)) (fun _ _ _ _ _ => ptsd_nil) (fun _ _ _ _ _ => (pd_cmp op_gtD (pd_op op_andD (pdv 5) (pdv 3)) pd_int (nomark _)))) pad_nil)))))), h⟩
def t_law_small (K : PySem.W.Frag) (A : Adr) : DS :=
  (dSeq (dAsg (dCall sp_law_at [] (dCons (dVar 2) (dCons (dCall sp_law_winners [] (dCons (dVar 1) (dCons (dVar 3) dNil))) (dCons (dVar 3) dNil)))) (dName 4))
    (dSeq (dAsg (dCall sp_law_parting [] (dCons (dVar 1) (dCons (dVar 2) (dCons (dVar 3) dNil)))) (dName 5))
    (dSeq (dAsg (dC .non) (dName 6))
    (dSeq (dFor (dIter (dCall (sp_law_lots 8) [] (dCons (dC (.int 0)) (dCons (dCB lenG (dCons (dVar 3) dNil)) dNil)))) (dName 7) (dSeq (dAsg (dC .non) (dName 8))
    (dSeq (dIfS (dTru (dCall sp_law_certifies [] (dCons (dVar 7) (dCons (dVar 5) dNil)))) (dSeq (dAsg (dVar 4) (dName 8))
    (dIfS (dOr (dB (dOp (isG false) (dVar 6) (dC .non))) (dB (dOp (oI0 fun i j => .bl (decide (i < j))) (dCB lenG (dCons (dVar 7) dNil)) (dCB lenG (dCons (dVar 6) dNil))))) (dAsg (dVar 7) (dName 6)) dNext)) dNext)
    (dIfS (dNot (dTru (dCall (sp_law_same 24) [] (dCons (dCall (sp_certified_outcome A) [] (dCons (dVar 0) (dCons (dVar 7) dNil))) (dCons (dVar 8) dNil))))) (dRet (dC (.bl false))) dNext))))
    (dSeq (dIfS (dNot (dTru (dCall (sp_law_same 24) [] (dCons (dCall (sp_least_certificate A.Duel) [] (dCons (dVar 0) dNil)) (dCons (dVar 6) dNil))))) (dRet (dC (.bl false))) dNext)
    (dSeq (dAsg (dCB tupG (dCons (dLc (dRng1 (dCons (dCB lenG (dCons (dVar 3) dNil)) dNil)) (fun d τ => τ.set 10 (some d)) (dB (dOp (inG false) (dOp ixG (dLst (dCons (dC (.int 1)) (dCons (dC (.int 2)) (dCons (dC (.int 4)) (dCons (dC (.int 8)) (dCons (dC (.int 16)) (dCons (dC (.int 32)) dNil))))))) (dVar 10)) (dVar 5))) (dVar 10) [10]) dNil)) (dName 9))
    (dRet (dCall (sp_law_same 24) [] (dCons (dCall (sp_pivot_leaves A.Duel) [] (dCons (dVar 0) dNil)) (dCons (dVar 9) dNil))))))))))
theorem ok_law_small {f : Addr} {fd : FuncData} (T : Txt w K mg A) (G_law_at : FnD P w K mg base 1 "_law_at" P_law_at [] sp_law_at) (G_law_certifies : FnD P w K mg base 1 "_law_certifies" P_law_certifies [] sp_law_certifies) (G_law_lots : FnD P w K mg base 8 "_law_lots" P_law_lots [] (sp_law_lots 8)) (G_law_parting : FnD P w K mg base 3 "_law_parting" P_law_parting [] sp_law_parting) (G_law_same : FnD P w K mg base 24 "_law_same" P_law_same [] (sp_law_same 24)) (G_law_winners : FnD P w K mg base 2 "_law_winners" P_law_winners [] sp_law_winners) (G_certified_outcome : FnD P w K mg base 3 "certified_outcome" P_certified_outcome [] (sp_certified_outcome A)) (G_least_certificate : FnD P w K mg base 3 "least_certificate" P_least_certificate [] (sp_least_certificate A.Duel)) (G_pivot_leaves : FnD P w K mg base 4 "pivot_leaves" P_pivot_leaves [] (sp_pivot_leaves A.Duel)) (F : L2.Fun K "_law_small" "_law_small" s_law_small f fd) (sp : DSp) (len : ∀ ds M Q E, sp ds M Q E → ds.length = P_law_small.length) (h : ∀ ds M Q E, sp ds M Q E → t_law_small K A (ends Q E) (dstart N_law_small ds) M) :
    FnOk P w K mg base (L2.CX P w) (24 + 1) f fd P_law_small (liftSp K sp) :=
  okD F sc_law_small len fun cdv Ar outer s H E hr tk => ⟨t_law_small K _, (pssd_cons (psd_set (i := 4) sc_law_small.nd rfl (Or.inl rfl) (pd_call G_law_at (hr.mono (by omega)) tk rfl (pad_cons (pdv 2) (pad_cons (pd_call G_law_winners (hr.mono (by omega)) tk rfl (pad_cons (pdv 1) (pad_cons (pdv 3) pad_nil))) (pad_cons (pdv 3) pad_nil)))))
    (pssd_cons (psd_set (i := 5) sc_law_small.nd rfl (Or.inr rfl) (pd_call G_law_parting (hr.mono (by omega)) tk rfl (pad_cons (pdv 1) (pad_cons (pdv 2) (pad_cons (pdv 3) pad_nil)))))
    (pssd_cons (psd_set (i := 6) sc_law_small.nd rfl (Or.inl rfl) pd_non)
    (pssd_cons (psd_for (passes_of rfl) rfl (pid_any (pd_call G_law_lots (hr.mono (by omega)) tk rfl (pad_cons pd_int (pad_cons (pd_callB call_lenG rfl T.n_len bt_len (pad_cons (pdv 3) pad_nil)) pad_nil)))) (pgd_name (pg_name (i := 7) sc_law_small.nd rfl (Or.inl rfl))) (pssd_cons (psd_set (i := 8) sc_law_small.nd rfl (Or.inl rfl) pd_non)
    (pssd_cons (psd_if (ptd_tru (pd_call G_law_certifies (hr.mono (by omega)) tk rfl (pad_cons (pdv 7) (pad_cons (pdv 5) pad_nil)))) (pssd_cons (psd_set (i := 8) sc_law_small.nd rfl (Or.inl rfl) (pdv 4))
    (pssd_one (psd_if (PWD.pt (pwd_or (pt_cmpD op_isG (pdv 6) pd_non (nomark _)) (pwd_or1 (pt_cmpD op_ltD (pd_callB call_lenG rfl T.n_len bt_len (pad_cons (pdv 7) pad_nil)) (pd_callB call_lenG rfl T.n_len bt_len (pad_cons (pdv 6) pad_nil)) (nomark _))))) (pssd_one (psd_set (i := 6) sc_law_small.nd rfl (Or.inl rfl) (pdv 7))) pssd_nil))) pssd_nil)
    (pssd_one (psd_if (ptd_not (ptd_tru (pd_call G_law_same (hr.mono (by omega)) tk rfl (pad_cons (pd_call G_certified_outcome (hr.mono (by omega)) tk rfl (pad_cons (pdv 0) (pad_cons (pdv 7) pad_nil))) (pad_cons (pdv 8) pad_nil))))) (pssd_one (psd_ret pd_bl)) pssd_nil)))))
    (pssd_cons (psd_if (ptd_not (ptd_tru (pd_call G_law_same (hr.mono (by omega)) tk rfl (pad_cons (pd_call G_least_certificate (hr.mono (by omega)) tk rfl (pad_cons (pdv 0) pad_nil)) (pad_cons (pdv 6) pad_nil))))) (pssd_one (psd_ret pd_bl)) pssd_nil)
    (pssd_cons (psd_set (i := 9) sc_law_small.nd rfl (Or.inl rfl) (pd_callT call_tupG rfl T.n_tuple bt_tuple (pad_cons (pd_lc (own := [("leaf", 10)]) (i := 10) rfl sc_law_small.nd (pid_rng1 rfl T.n_range (pad_cons (pd_callB call_lenG rfl T.n_len bt_len (pad_cons (pdv 3) pad_nil)) pad_nil)) (blkOk_by (N := N_law_small) (sc := defScope s_law_small) (by decide +kernel)) (by decide) (fun _ _ _ _ _ => pg_name (i := 10) sc_law_small.nd rfl (Or.inl rfl)) (fun _ _ _ _ _ => (ptsd_one (pt_cmpD op_inG (pd_ix ix_G (pd_lst (pad_cons pd_int (pad_cons pd_int (pad_cons pd_int (pad_cons pd_int (pad_cons pd_int (pad_cons pd_int pad_nil))))))) (pdv 10) (fun _ _ => rfl)) (pdv 5) (by with_unfolding_all rfl)))) (fun _ _ _ _ _ => (pdv 10))) pad_nil)))
    (pssd_one (psd_ret (pd_call G_law_same (hr.mono (by omega)) tk rfl (pad_cons (pd_call G_pivot_leaves (hr.mono (by omega)) tk rfl (pad_cons (pdv 0) pad_nil)) (pad_cons (pdv 9) pad_nil))))))))))), h⟩
def t_law_fewest (K : PySem.W.Frag) (A : Adr) (n : Nat) : DS :=
  (dSeq (dIfS (dB (dOp eqD (dOp ixG (dVar 0) (dC (.int 0))) (dC (.str "end")))) (dRet (dLst (dCons (dOp ixG (dVar 0) (dC (.int 1))) (dCons (dTup (dCons (dVar 1) dNil)) (dCons (dC (.int 1)) dNil))))) dNext)
    (dSeq (dAsg (dLst dNil) (dName 2))
    (dSeq (dAsg (dC (.int 0)) (dName 3))
    (dSeq (dFor (dIter (dSl (dVar 0) (dPart (dC (.int 2))) dNoP)) (dName 4) (dSeq (dAsg (dCall (sp_law_fewest n) [] (dCons (dVar 4) (dCons (dOp addD (dVar 1) (dVar 3)) dNil))) (dName 5))
    (dSeq (dDrop (dBM "list" appendM (dVar 2) (dCons (dVar 5) dNil)))
    (dAsg (dOp addD (dVar 3) (dOp ixG (dVar 5) (dC (.int 2)))) (dName 3)))))
    (dSeq (dAsg (dC .non) (dName 6))
    (dSeq (dAsg (dTup dNil) (dName 7))
    (dSeq (dFor (dIter (dVar 2)) (dName 5) (dSeq (dAsg (dOp addD (dVar 7) (dOp ixG (dVar 5) (dC (.int 1)))) (dName 7))
    (dIfS (dAnd (dB (dOp eqD (dOp ixG (dVar 5) (dC (.int 0))) (dOp ixG (dVar 0) (dC (.int 1))))) (dOr (dB (dOp (isG false) (dVar 6) (dC .non))) (dB (dOp (oI0 fun i j => .bl (decide (i < j))) (dCB lenG (dCons (dOp ixG (dVar 5) (dC (.int 1))) dNil)) (dCB lenG (dCons (dVar 6) dNil)))))) (dAsg (dOp ixG (dVar 5) (dC (.int 1))) (dName 6)) dNext)))
    (dSeq (dIfS (dB (dOp (isG false) (dVar 6) (dC .non))) (dRet (dLst (dCons (dOp (oI0 fun i j => .int (i - j)) (dC (.int 1)) (dOp ixG (dVar 0) (dC (.int 1)))) (dCons (dVar 7) (dCons (dVar 3) dNil))))) dNext)
    (dRet (dLst (dCons (dOp ixG (dVar 0) (dC (.int 1))) (dCons (dVar 6) (dCons (dVar 3) dNil)))))))))))))
theorem ok_law_fewest {f : Addr} {fd : FuncData} {n : Nat} (T : Txt w K mg A) (G_law_fewest : FnD P w K mg base (0 + n) "_law_fewest" P_law_fewest [] (sp_law_fewest n)) (F : L2.Fun K "_law_fewest" "_law_fewest" s_law_fewest f fd) (sp : DSp) (len : ∀ ds M Q E, sp ds M Q E → ds.length = P_law_fewest.length) (h : ∀ ds M Q E, sp ds M Q E → t_law_fewest K A n (ends Q E) (dstart N_law_fewest ds) M) :
    FnOk P w K mg base (L2.CX P w) (0 + n + 1) f fd P_law_fewest (liftSp K sp) :=
  okD F sc_law_fewest len fun cdv Ar outer s H E hr tk => ⟨t_law_fewest K _ n, (pssd_cons (psd_if (pt_cmpD (op_eqG (u200 hr)) (pd_ix ix_G (pdv 0) pd_int (fun _ _ => rfl)) pd_str (nomark _)) (pssd_one (psd_ret (pd_lst (pad_cons (pd_ix ix_G (pdv 0) pd_int (fun _ _ => rfl)) (pad_cons (pd_tup (pad_cons (pdv 1) pad_nil)) (pad_cons pd_int pad_nil)))))) pssd_nil)
    (pssd_cons (psd_set (i := 2) sc_law_fewest.nd rfl (Or.inl rfl) (pd_lst pad_nil))
    (pssd_cons (psd_set (i := 3) sc_law_fewest.nd rfl (Or.inl rfl) pd_int)
    (pssd_cons (psd_for (passes_of rfl) rfl (pid_any (pd_slice (pdv 0) (pod_some pd_int) pod_none)) (pgd_name (pg_name (i := 4) sc_law_fewest.nd rfl (Or.inl rfl))) (pssd_cons (psd_set (i := 5) sc_law_fewest.nd rfl (Or.inl rfl) (pd_call G_law_fewest (hr.mono (by omega)) tk rfl (pad_cons (pdv 4) (pad_cons (pd_op op_addD (pdv 1) (pdv 3)) pad_nil))))
    (pssd_cons (psd_expr (pd_bm PySem.F.plainAttrs_list PySem.F.slot_list_append PySem.F.type_list_append mt_appendM (pdv 2) (pad_cons (pdv 5) pad_nil)))
    (pssd_one (psd_set (i := 3) sc_law_fewest.nd rfl (Or.inl rfl) (pd_op op_addD (pdv 3) (pd_ix ix_G (pdv 5) pd_int (fun _ _ => rfl))))))))
    (pssd_cons (psd_set (i := 6) sc_law_fewest.nd rfl (Or.inl rfl) pd_non)
    (pssd_cons (psd_set (i := 7) sc_law_fewest.nd rfl (Or.inl rfl) (pd_tup pad_nil))
    (pssd_cons (psd_for (passes_of rfl) rfl (pid_any (pdv 2)) (pgd_name (pg_name (i := 5) sc_law_fewest.nd rfl (Or.inl rfl))) (pssd_cons (psd_set (i := 7) sc_law_fewest.nd rfl (Or.inl rfl) (pd_op op_addD (pdv 7) (pd_ix ix_G (pdv 5) pd_int (fun _ _ => rfl))))
    (pssd_one (psd_if (PWD.pt (pwd_and (pt_cmpD (op_eqG (u200 hr)) (pd_ix ix_G (pdv 5) pd_int (fun _ _ => rfl)) (pd_ix ix_G (pdv 0) pd_int (fun _ _ => rfl)) (nomark _)) (pwd_and1 (PWD.pt (pwd_or (pt_cmpD op_isG (pdv 6) pd_non (nomark _)) (pwd_or1 (pt_cmpD op_ltD (pd_callB call_lenG rfl T.n_len bt_len (pad_cons (pd_ix ix_G (pdv 5) pd_int (fun _ _ => rfl)) pad_nil)) (pd_callB call_lenG rfl T.n_len bt_len (pad_cons (pdv 6) pad_nil)) (nomark _)))))))) (pssd_one (psd_set (i := 6) sc_law_fewest.nd rfl (Or.inl rfl) (pd_ix ix_G (pdv 5) pd_int (fun _ _ => rfl)))) pssd_nil))))
    (pssd_cons (psd_if (pt_cmpD op_isG (pdv 6) pd_non (nomark _)) (pssd_one (psd_ret (pd_lst (pad_cons (pd_op op_subD pd_int (pd_ix ix_G (pdv 0) pd_int (fun _ _ => rfl))) (pad_cons (pdv 7) (pad_cons (pdv 3) pad_nil)))))) pssd_nil)
    (pssd_one (psd_ret (pd_lst (pad_cons (pd_ix ix_G (pdv 0) pd_int (fun _ _ => rfl)) (pad_cons (pdv 6) (pad_cons (pdv 3) pad_nil)))))))))))))), h⟩
def t_law_two (K : PySem.W.Frag) (A : Adr) : DS :=
  (dSeq (dAsg (dLc (dIter (dVar 2)) (fun d τ => τ.set 5 (some d)) dYes (dC (.int 0)) [5]) (dName 4))
    (dSeq (dFor (dIter (dVar 3)) (dName 5) (dAsg (dC (.int 1)) (dGSub (dVar 4) (dVar 5))))
    (dSeq (dAsg (dLst dNil) (dName 6))
    (dSeq (dFor (dRng1 (dCons (dC (.int 2)) dNil)) (dName 7) (dSeq (dAsg (dLc (dRng1 (dCons (dCB lenG (dCons (dVar 2) dNil)) dNil)) (fun d τ => τ.set 5 (some d)) dYes (dOp addD (dOp mulD (dOp ixG (dVar 4) (dVar 5)) (dOp ixG (dVar 2) (dVar 5))) (dOp mulD (dOp (oI0 fun i j => .int (i - j)) (dC (.int 1)) (dOp ixG (dVar 4) (dVar 5))) (dVar 7))) [5]) (dName 8))
    (dDrop (dBM "list" appendM (dVar 6) (dCons (dCall sp_law_at [] (dCons (dVar 1) (dCons (dCall sp_law_winners [] (dCons (dVar 0) (dCons (dVar 8) dNil))) (dCons (dVar 8) dNil)))) dNil)))))
    (dSeq (dIfS (dB (dOp eqD (dOp ixG (dVar 6) (dC (.int 0))) (dOp ixG (dVar 6) (dC (.int 1))))) (dRet (dOp ixG (dVar 6) (dC (.int 0)))) dNext)
    (dRet (dC .non)))))))
theorem ok_law_two {f : Addr} {fd : FuncData} (T : Txt w K mg A) (G_law_at : FnD P w K mg base 1 "_law_at" P_law_at [] sp_law_at) (G_law_winners : FnD P w K mg base 2 "_law_winners" P_law_winners [] sp_law_winners) (F : L2.Fun K "_law_two" "_law_two" s_law_two f fd) (sp : DSp) (len : ∀ ds M Q E, sp ds M Q E → ds.length = P_law_two.length) (h : ∀ ds M Q E, sp ds M Q E → t_law_two K A (ends Q E) (dstart N_law_two ds) M) :
    FnOk P w K mg base (L2.CX P w) (2 + 1) f fd P_law_two (liftSp K sp) :=
  okD F sc_law_two len fun cdv Ar outer s H E hr tk => ⟨t_law_two K _, (pssd_cons (psd_set (i := 4) sc_law_two.nd rfl (Or.inr rfl) (pd_lc (own := [("leaf", 5)]) (i := 5) rfl sc_law_two.nd (pid_any (pdv 2)) (blkOk_by (N := N_law_two) (sc := defScope s_law_two) (by decide +kernel)) (by decide) (fun _ _ _ _ _ => pg_name (i := 5) sc_law_two.nd rfl (Or.inl rfl)) (fun _ _ _ _ _ => ptsd_nil) (fun _ _ _ _ _ => pd_int)))
    (pssd_cons (psd_for (passes_of rfl) rfl (pid_any (pdv 3)) (pgd_name (pg_name (i := 5) sc_law_two.nd rfl (Or.inl rfl))) (pssd_one (psd_asg pd_int (pgd_sub (pdv 4) (pdv 5)))))
    (pssd_cons (psd_set (i := 6) sc_law_two.nd rfl (Or.inl rfl) (pd_lst pad_nil))
    (pssd_cons (psd_for (passes_of rfl) rfl (pid_rng1 rfl T.n_range (pad_cons pd_int pad_nil)) (pgd_name (pg_name (i := 7) sc_law_two.nd rfl (Or.inr rfl))) (pssd_cons (psd_setLc (own := [("leaf", 5)]) (i := 5) (j := 8) rfl sc_law_two.nd rfl rfl (sw_true rfl rfl rfl (by decide +kernel)) (pid_rng1 rfl T.n_range (pad_cons (pd_callB call_lenG rfl T.n_len bt_len (pad_cons (pdv 2) pad_nil)) pad_nil)) (blkOk_by (N := N_law_two) (sc := defScope s_law_two) (by decide +kernel)) (by decide) (fun _ _ _ _ _ => pg_name (i := 5) sc_law_two.nd rfl (Or.inl rfl)) (fun _ _ _ _ _ => ptsd_nil) (fun _ _ _ _ _ => (pd_op op_addD (pd_op op_mulD (pd_ix ix_G (pdv 4) (pdv 5) (fun _ _ => rfl)) (pd_ix ix_G (pdv 2) (pdv 5) (fun _ _ => rfl))) (pd_op op_mulD (pd_op op_subD pd_int (pd_ix ix_G (pdv 4) (pdv 5) (fun _ _ => rfl))) (pdv 7)))))
    (pssd_one (psd_expr (pd_bm PySem.F.plainAttrs_list PySem.F.slot_list_append PySem.F.type_list_append mt_appendM (pdv 6) (pad_cons (pd_call G_law_at (hr.mono (by omega)) tk rfl (pad_cons (pdv 1) (pad_cons (pd_call G_law_winners (hr.mono (by omega)) tk rfl (pad_cons (pdv 0) (pad_cons (pdv 8) pad_nil))) (pad_cons (pdv 8) pad_nil)))) pad_nil))))))
    (pssd_cons (psd_if (pt_cmpD (op_eqG (u200 hr)) (pd_ix ix_G (pdv 6) pd_int (fun _ _ => rfl)) (pd_ix ix_G (pdv 6) pd_int (fun _ _ => rfl)) (nomark _)) (pssd_one (psd_ret (pd_ix ix_G (pdv 6) pd_int (fun _ _ => rfl)))) pssd_nil)
    (pssd_one (psd_ret pd_non))))))), h⟩
def t_law_deciding (K : PySem.W.Frag) (A : Adr) (n : Nat) : DS :=
  (dSeq (dIfS (dB (dOp eqD (dOp ixG (dVar 1) (dC (.int 0))) (dC (.int 0)))) (dRet (dLst (dCons (dOp ixG (dVar 1) (dC (.int 1))) dNil))) dNext)
    (dSeq (dAsg (dOp ixG (dVar 0) (dOp ixG (dVar 1) (dC (.int 1)))) (dGTup 2 (dGCons (dName 4) (dGCons (dName 5) dGNil))))
    (dSeq (dAsg (dLc (dIter (dVar 5)) (fun d τ => τ.set 9 (some d)) dYes (dOp eqD (dCall sp_law_at [] (dCons (dVar 9) (dCons (dVar 2) (dCons (dVar 3) dNil)))) (dVar 4)) [9]) (dName 6))
    (dSeq (dAsg (dLst dNil) (dName 7))
    (dSeq (dFor (dRng1 (dCons (dCB lenG (dCons (dVar 5) dNil)) dNil)) (dName 8) (dIfS (dNot (dTru (dCB (allG fun bs => bs.any id) (dCons (dOp addD (dSl (dVar 6) dNoP (dPart (dVar 8))) (dSl (dVar 6) (dPart (dOp addD (dVar 8) (dC (.int 1)))) dNoP)) dNil)))) (dAsg (dOp addD (dVar 7) (dCall (sp_law_deciding n) [] (dCons (dVar 0) (dCons (dOp ixG (dVar 5) (dVar 8)) (dCons (dVar 2) (dCons (dVar 3) dNil)))))) (dName 7)) dNext))
    (dRet (dVar 7)))))))
theorem ok_law_deciding {f : Addr} {fd : FuncData} {n : Nat} (T : Txt w K mg A) (G_law_at : FnD P w K mg base 1 "_law_at" P_law_at [] sp_law_at) (G_law_deciding : FnD P w K mg base (1 + n) "_law_deciding" P_law_deciding [] (sp_law_deciding n)) (F : L2.Fun K "_law_deciding" "_law_deciding" s_law_deciding f fd) (sp : DSp) (len : ∀ ds M Q E, sp ds M Q E → ds.length = P_law_deciding.length) (h : ∀ ds M Q E, sp ds M Q E → t_law_deciding K A n (ends Q E) (dstart N_law_deciding ds) M) :
    FnOk P w K mg base (L2.CX P w) (1 + n + 1) f fd P_law_deciding (liftSp K sp) :=
  okD F sc_law_deciding len fun cdv Ar outer s H E hr tk => ⟨t_law_deciding K _ n, (pssd_cons (psd_if (pt_cmpD (op_eqG (u200 hr)) (pd_ix ix_G (pdv 1) pd_int (fun _ _ => rfl)) pd_int (nomark _)) (pssd_one (psd_ret (pd_lst (pad_cons (pd_ix ix_G (pdv 1) pd_int (fun _ _ => rfl)) pad_nil)))) pssd_nil)
    (pssd_cons (psd_asg (pd_ix ix_G (pdv 0) (pd_ix ix_G (pdv 1) pd_int (fun _ _ => rfl)) (fun _ _ => rfl)) (pgd_tup rfl (pgsd_cons (pgd_name (pg_name (i := 4) sc_law_deciding.nd rfl (Or.inr rfl))) (pgsd_cons (pgd_name (pg_name (i := 5) sc_law_deciding.nd rfl (Or.inl rfl))) pgsd_nil))))
    (pssd_cons (psd_setLc (own := [("option", 9)]) (i := 9) (j := 6) rfl sc_law_deciding.nd rfl rfl (sw_true rfl rfl rfl (by decide +kernel)) (pid_any (pdv 5)) (blkOk_by (N := N_law_deciding) (sc := defScope s_law_deciding) (by decide +kernel)) (by decide) (fun _ _ _ _ _ => pg_name (i := 9) sc_law_deciding.nd rfl (Or.inl rfl)) (fun _ _ _ _ _ => ptsd_nil) (fun _ _ _ _ _ => (pd_cmp (op_eqG (u200 hr)) (pd_call G_law_at (hr.mono (by omega)) tk0 rfl (pad_cons (pdv 9) (pad_cons (pdv 2) (pad_cons (pdv 3) pad_nil)))) (pdv 4) (nomark _))))
    (pssd_cons (psd_set (i := 7) sc_law_deciding.nd rfl (Or.inl rfl) (pd_lst pad_nil))
    (pssd_cons (psd_for (passes_of rfl) rfl (pid_rng1 rfl T.n_range (pad_cons (pd_callB call_lenG rfl T.n_len bt_len (pad_cons (pdv 5) pad_nil)) pad_nil)) (pgd_name (pg_name (i := 8) sc_law_deciding.nd rfl (Or.inl rfl))) (pssd_one (psd_if (ptd_not (ptd_tru (pd_callB (call_anyG rfl) rfl T.n_any bt_any (pad_cons (pd_op op_addD (pd_slice (pdv 6) pod_none (pod_some (pdv 8))) (pd_slice (pdv 6) (pod_some (pd_op op_addD (pdv 8) pd_int)) pod_none)) pad_nil)))) (pssd_one (psd_set (i := 7) sc_law_deciding.nd rfl (Or.inl rfl) (pd_op op_addD (pdv 7) (pd_call G_law_deciding (hr.mono (by omega)) tk rfl (pad_cons (pdv 0) (pad_cons (pd_ix ix_G (pdv 5) (pdv 8) (fun _ _ => rfl)) (pad_cons (pdv 2) (pad_cons (pdv 3) pad_nil)))))))) pssd_nil)))
    (pssd_one (psd_ret (pdv 7)))))))), h⟩
def t_law_large (K : PySem.W.Frag) (A : Adr) : DS :=
  (dSeq (dAsg (dCall (sp_law_fewest 22) [] (dCons (dVar 2) (dCons (dC (.int 0)) dNil))) (dName 6))
    (dSeq (dAsg (dOp ixG (dVar 6) (dC (.int 1))) (dName 7))
    (dSeq (dIfS (dNot (dTru (dCall (sp_law_same 24) [] (dCons (dCall (sp_least_certificate A.Duel) [] (dCons (dVar 1) dNil)) (dCons (dVar 7) dNil))))) (dRet (dC (.bl false))) dNext)
    (dSeq (dAsg (dCall sp_law_pick [] (dCons (dVar 0) (dCons (dCB lenG (dCons (dVar 7) dNil)) dNil))) (dName 8))
    (dSeq (dAsg (dLst (dCons (dTup dNil) (dCons (dTupRg (dCons (dCB lenG (dCons (dVar 5) dNil)) dNil)) (dCons (dVar 7) (dCons (dOp addD (dSl (dVar 7) dNoP (dPart (dVar 8))) (dSl (dVar 7) (dPart (dOp addD (dVar 8) (dC (.int 1)))) dNoP)) dNil))))) (dName 9))
    (dSeq (dFor (dRng1 (dCons (dC (.int 4)) dNil)) (dName 10) (dSeq (dAsg (dOp ixG (dLst (dCons (dC (.int 1)) (dCons (dC (.int 3)) (dCons (dC (.int 5)) (dCons (dC (.int 6)) dNil))))) (dVar 10)) (dName 11))
    (dDrop (dBM "list" appendM (dVar 9) (dCons (dCB tupG (dCons (dLc (dRng1 (dCons (dCB lenG (dCons (dVar 5) dNil)) dNil)) (fun d τ => τ.set 14 (some d)) (dB (dOp (oI0 fun i j => .bl (decide (i < j))) (dCall sp_law_pick [] (dCons (dVar 0) (dCons (dC (.int 7)) dNil))) (dVar 11))) (dVar 14) [14]) dNil)) dNil)))))
    (dSeq (dDrop (dBM "list" appendM (dVar 9) (dCons (dCB tupG (dCons (dLc (dRng1 (dCons (dCB lenG (dCons (dVar 5) dNil)) dNil)) (fun d τ => τ.set 14 (some d)) (dB (dOp (inG true) (dVar 14) (dVar 7))) (dVar 14) [14]) dNil)) dNil)))
    (dSeq (dFor (dIter (dVar 9)) (dName 12) (dIfS (dNot (dTru (dCall (sp_law_same 24) [] (dCons (dCall (sp_certified_outcome A) [] (dCons (dVar 1) (dCons (dVar 12) dNil))) (dCons (dCall sp_law_two [] (dCons (dVar 3) (dCons (dVar 4) (dCons (dVar 5) (dCons (dVar 12) dNil))))) dNil))))) (dRet (dC (.bl false))) dNext))
    (dSeq (dIfS (dAnd (dB (dOp (oI0 fun i j => .bl (decide (j < i))) (dCB lenG (dCons (dVar 5) dNil)) (dC (.int 80)))) (dB (dOp (oI0 fun i j => .bl (decide (j < i))) (dCall sp_law_pick [] (dCons (dVar 0) (dCons (dC (.int 6)) dNil))) (dC (.int 0))))) (dRet (dC (.bl true))) dNext)
    (dSeq (dAsg (dCB tupG (dCons (dCall (sp_law_deciding 22) [] (dCons (dVar 3) (dCons (dVar 4) (dCons (dCall sp_law_winners [] (dCons (dVar 3) (dCons (dVar 5) dNil))) (dCons (dVar 5) dNil))))) dNil)) (dName 13))
    (dRet (dCall (sp_law_same 24) [] (dCons (dCall (sp_pivot_leaves A.Duel) [] (dCons (dVar 1) dNil)) (dCons (dVar 13) dNil))))))))))))))
theorem ok_law_large {f : Addr} {fd : FuncData} (T : Txt w K mg A) (G_law_deciding : FnD P w K mg base 23 "_law_deciding" P_law_deciding [] (sp_law_deciding 22)) (G_law_fewest : FnD P w K mg base 22 "_law_fewest" P_law_fewest [] (sp_law_fewest 22)) (G_law_pick : FnD P w K mg base 1 "_law_pick" P_law_pick [] sp_law_pick) (G_law_same : FnD P w K mg base 24 "_law_same" P_law_same [] (sp_law_same 24)) (G_law_two : FnD P w K mg base 3 "_law_two" P_law_two [] sp_law_two) (G_law_winners : FnD P w K mg base 2 "_law_winners" P_law_winners [] sp_law_winners) (G_certified_outcome : FnD P w K mg base 3 "certified_outcome" P_certified_outcome [] (sp_certified_outcome A)) (G_least_certificate : FnD P w K mg base 3 "least_certificate" P_least_certificate [] (sp_least_certificate A.Duel)) (G_pivot_leaves : FnD P w K mg base 4 "pivot_leaves" P_pivot_leaves [] (sp_pivot_leaves A.Duel)) (F : L2.Fun K "_law_large" "_law_large" s_law_large f fd) (sp : DSp) (len : ∀ ds M Q E, sp ds M Q E → ds.length = P_law_large.length) (h : ∀ ds M Q E, sp ds M Q E → t_law_large K A (ends Q E) (dstart N_law_large ds) M) :
    FnOk P w K mg base (L2.CX P w) (24 + 1) f fd P_law_large (liftSp K sp) :=
  okD F sc_law_large len fun cdv Ar outer s H E hr tk => ⟨t_law_large K _, (pssd_cons (psd_set (i := 6) sc_law_large.nd rfl (Or.inl rfl) (pd_call G_law_fewest (hr.mono (by omega)) tk rfl (pad_cons (pdv 2) (pad_cons pd_int pad_nil))))
    (pssd_cons (psd_set (i := 7) sc_law_large.nd rfl (Or.inr rfl) (pd_ix ix_G (pdv 6) pd_int (fun _ _ => rfl)))
    (pssd_cons (psd_if (ptd_not (ptd_tru (pd_call G_law_same (hr.mono (by omega)) tk rfl (pad_cons (pd_call G_least_certificate (hr.mono (by omega)) tk rfl (pad_cons (pdv 1) pad_nil)) (pad_cons (pdv 7) pad_nil))))) (pssd_one (psd_ret pd_bl)) pssd_nil)
    (pssd_cons (psd_set (i := 8) sc_law_large.nd rfl (Or.inl rfl) (pd_call G_law_pick (hr.mono (by omega)) tk rfl (pad_cons (pdv 0) (pad_cons (pd_callB call_lenG rfl T.n_len bt_len (pad_cons (pdv 7) pad_nil)) pad_nil))))
    (pssd_cons (psd_set (i := 9) sc_law_large.nd rfl (Or.inl rfl) (pd_lst (pad_cons (pd_tup pad_nil) (pad_cons (pd_tupRg1 rfl rfl T.n_tuple rfl T.n_range (pd_callB call_lenG rfl T.n_len bt_len (pad_cons (pdv 5) pad_nil))) (pad_cons (pdv 7) (pad_cons (pd_op op_addD (pd_slice (pdv 7) pod_none (pod_some (pdv 8))) (pd_slice (pdv 7) (pod_some (pd_op op_addD (pdv 8) pd_int)) pod_none)) pad_nil))))))
    (pssd_cons (psd_for (passes_of rfl) rfl (pid_rng1 rfl T.n_range (pad_cons pd_int pad_nil)) (pgd_name (pg_name (i := 10) sc_law_large.nd rfl (Or.inl rfl))) (pssd_cons (psd_set (i := 11) sc_law_large.nd rfl (Or.inr rfl) (pd_ix ix_G (pd_lst (pad_cons pd_int (pad_cons pd_int (pad_cons pd_int (pad_cons pd_int pad_nil))))) (pdv 10) (fun _ _ => rfl)))
    (pssd_one (psd_expr (pd_bm PySem.F.plainAttrs_list PySem.F.slot_list_append PySem.F.type_list_append mt_appendM (pdv 9) (pad_cons (pd_callT call_tupG rfl T.n_tuple bt_tuple (pad_cons (pd_lc (own := [("leaf", 14)]) (i := 14) rfl sc_law_large.nd (pid_rng1 rfl T.n_range (pad_cons (pd_callB call_lenG rfl T.n_len bt_len (pad_cons (pdv 5) pad_nil)) pad_nil)) (blkOk_by (N := N_law_large) (sc := defScope s_law_large) (by decide +kernel)) (by decide) (fun _ _ _ _ _ => pg_name (i := 14) sc_law_large.nd rfl (Or.inl rfl)) (fun _ _ _ _ _ => (ptsd_one (pt_cmpD op_ltD (pd_call G_law_pick (hr.mono (by omega)) tk0 rfl (pad_cons (pdv 0) (pad_cons pd_int pad_nil))) (pdv 11) (nomark _)))) (fun _ _ _ _ _ => (pdv 14))) pad_nil)) pad_nil))))))
    (pssd_cons (psd_expr (pd_bm PySem.F.plainAttrs_list PySem.F.slot_list_append PySem.F.type_list_append mt_appendM (pdv 9) (pad_cons (pd_callT call_tupG rfl T.n_tuple bt_tuple (pad_cons (pd_lc (own := [("leaf", 14)]) (i := 14) rfl sc_law_large.nd (pid_rng1 rfl T.n_range (pad_cons (pd_callB call_lenG rfl T.n_len bt_len (pad_cons (pdv 5) pad_nil)) pad_nil)) (blkOk_by (N := N_law_large) (sc := defScope s_law_large) (by decide +kernel)) (by decide) (fun _ _ _ _ _ => pg_name (i := 14) sc_law_large.nd rfl (Or.inl rfl)) (fun _ _ _ _ _ => (ptsd_one (pt_cmpD op_notInG (pdv 14) (pdv 7) (by with_unfolding_all rfl)))) (fun _ _ _ _ _ => (pdv 14))) pad_nil)) pad_nil)))
    (pssd_cons (psd_for (passes_of rfl) rfl (pid_any (pdv 9)) (pgd_name (pg_name (i := 12) sc_law_large.nd rfl (Or.inl rfl))) (pssd_one (psd_if (ptd_not (ptd_tru (pd_call G_law_same (hr.mono (by omega)) tk rfl (pad_cons (pd_call G_certified_outcome (hr.mono (by omega)) tk rfl (pad_cons (pdv 1) (pad_cons (pdv 12) pad_nil))) (pad_cons (pd_call G_law_two (hr.mono (by omega)) tk rfl (pad_cons (pdv 3) (pad_cons (pdv 4) (pad_cons (pdv 5) (pad_cons (pdv 12) pad_nil))))) pad_nil))))) (pssd_one (psd_ret pd_bl)) pssd_nil)))
    (pssd_cons (psd_if (PWD.pt (pwd_and (pt_cmpD op_gtD (pd_callB call_lenG rfl T.n_len bt_len (pad_cons (pdv 5) pad_nil)) pd_int (nomark _)) (pwd_and1 (pt_cmpD op_gtD (pd_call G_law_pick (hr.mono (by omega)) tk rfl (pad_cons (pdv 0) (pad_cons pd_int pad_nil))) pd_int (nomark _))))) (pssd_one (psd_ret pd_bl)) pssd_nil)
    (pssd_cons (psd_set (i := 13) sc_law_large.nd rfl (Or.inl rfl) (pd_callT call_tupG rfl T.n_tuple bt_tuple (pad_cons (pd_call G_law_deciding (hr.mono (by omega)) tk rfl (pad_cons (pdv 3) (pad_cons (pdv 4) (pad_cons (pd_call G_law_winners (hr.mono (by omega)) tk rfl (pad_cons (pdv 3) (pad_cons (pdv 5) pad_nil))) (pad_cons (pdv 5) pad_nil))))) pad_nil)))
    (pssd_one (psd_ret (pd_call G_law_same (hr.mono (by omega)) tk rfl (pad_cons (pd_call G_pivot_leaves (hr.mono (by omega)) tk rfl (pad_cons (pdv 1) pad_nil)) (pad_cons (pdv 13) pad_nil))))))))))))))), h⟩
def t_law_wrong (K : PySem.W.Frag) (A : Adr) : DS :=
  (dSeq (dAsg (dCall sp_law_pick [] (dCons (dVar 0) (dCons (dC (.int 4)) dNil))) (dName 3))
    (dSeq (dIfS (dB (dOp eqD (dCB lenG (dCons (dVar 2) dNil)) (dC (.int 0)))) (dRet (dOp ixG (dLst (dCons (dTup (dCons (dNeg (dC (.int 1))) dNil)) (dCons (dTup (dCons (dVar 1) dNil)) (dCons (dTup (dCons (dOp addD (dVar 1) (dC (.int 5))) dNil)) (dCons (dTup (dCons (dC (.int 999999999)) dNil)) dNil))))) (dVar 3))) dNext)
    (dSeq (dAsg (dCall sp_law_pick [] (dCons (dVar 0) (dCons (dCB lenG (dCons (dVar 2) dNil)) dNil))) (dName 4))
    (dSeq (dIfS (dB (dOp eqD (dVar 3) (dC (.int 0)))) (dRet (dOp addD (dOp addD (dSl (dVar 2) dNoP (dPart (dVar 4))) (dTup (dCons (dOp (oI0 fun i j => .int (i - j)) (dNeg (dC (.int 1))) (dCall sp_law_pick [] (dCons (dVar 0) (dCons (dC (.int 2)) dNil)))) dNil))) (dSl (dVar 2) (dPart (dOp addD (dVar 4) (dCall sp_law_pick [] (dCons (dVar 0) (dCons (dC (.int 2)) dNil))))) dNoP))) dNext)
    (dSeq (dIfS (dB (dOp eqD (dVar 3) (dC (.int 1)))) (dRet (dOp addD (dOp addD (dSl (dVar 2) dNoP (dPart (dVar 4))) (dTup (dCons (dOp addD (dVar 1) (dCall sp_law_pick [] (dCons (dVar 0) (dCons (dC (.int 3)) dNil)))) dNil))) (dSl (dVar 2) (dPart (dOp addD (dVar 4) (dC (.int 1)))) dNoP))) dNext)
    (dSeq (dIfS (dB (dOp eqD (dVar 3) (dC (.int 2)))) (dRet (dOp addD (dOp addD (dSl (dVar 2) dNoP (dPart (dVar 4))) (dTup (dCons (dOp ixG (dVar 2) (dVar 4)) dNil))) (dSl (dVar 2) (dPart (dVar 4)) dNoP))) dNext)
    (dRet (dOp addD (dVar 2) (dTup (dCons (dCall sp_law_pick [] (dCons (dVar 0) (dCons (dOp addD (dC (.int 1)) (dOp ixG (dVar 2) (dNeg (dC (.int 1))))) dNil))) dNil))))))))))
theorem ok_law_wrong {f : Addr} {fd : FuncData} (T : Txt w K mg A) (G_law_pick : FnD P w K mg base 1 "_law_pick" P_law_pick [] sp_law_pick) (F : L2.Fun K "_law_wrong" "_law_wrong" s_law_wrong f fd) (sp : DSp) (len : ∀ ds M Q E, sp ds M Q E → ds.length = P_law_wrong.length) (h : ∀ ds M Q E, sp ds M Q E → t_law_wrong K A (ends Q E) (dstart N_law_wrong ds) M) :
    FnOk P w K mg base (L2.CX P w) (1 + 1) f fd P_law_wrong (liftSp K sp) :=
  okD F sc_law_wrong len fun cdv Ar outer s H E hr tk => ⟨t_law_wrong K _, (pssd_cons (psd_set (i := 3) sc_law_wrong.nd rfl (Or.inl rfl) (pd_call G_law_pick (hr.mono (by omega)) tk rfl (pad_cons (pdv 0) (pad_cons pd_int pad_nil))))
    (pssd_cons (psd_if (pt_cmpD (op_eqG (u200 hr)) (pd_callB call_lenG rfl T.n_len bt_len (pad_cons (pdv 2) pad_nil)) pd_int (nomark _)) (pssd_one (psd_ret (pd_ix ix_G (pd_lst (pad_cons (pd_tup (pad_cons (pd_neg pd_int) pad_nil)) (pad_cons (pd_tup (pad_cons (pdv 1) pad_nil)) (pad_cons (pd_tup (pad_cons (pd_op op_addD (pdv 1) pd_int) pad_nil)) (pad_cons (pd_tup (pad_cons pd_int pad_nil)) pad_nil))))) (pdv 3) (fun _ _ => rfl)))) pssd_nil)
    (pssd_cons (psd_set (i := 4) sc_law_wrong.nd rfl (Or.inl rfl) (pd_call G_law_pick (hr.mono (by omega)) tk rfl (pad_cons (pdv 0) (pad_cons (pd_callB call_lenG rfl T.n_len bt_len (pad_cons (pdv 2) pad_nil)) pad_nil))))
    (pssd_cons (psd_if (pt_cmpD (op_eqG (u200 hr)) (pdv 3) pd_int (nomark _)) (pssd_one (psd_ret (pd_op op_addD (pd_op op_addD (pd_slice (pdv 2) pod_none (pod_some (pdv 4))) (pd_tup (pad_cons (pd_op op_subD (pd_neg pd_int) (pd_call G_law_pick (hr.mono (by omega)) tk rfl (pad_cons (pdv 0) (pad_cons pd_int pad_nil)))) pad_nil))) (pd_slice (pdv 2) (pod_some (pd_op op_addD (pdv 4) (pd_call G_law_pick (hr.mono (by omega)) tk rfl (pad_cons (pdv 0) (pad_cons pd_int pad_nil))))) pod_none)))) pssd_nil)
    (pssd_cons (psd_if (pt_cmpD (op_eqG (u200 hr)) (pdv 3) pd_int (nomark _)) (pssd_one (psd_ret (pd_op op_addD (pd_op op_addD (pd_slice (pdv 2) pod_none (pod_some (pdv 4))) (pd_tup (pad_cons (pd_op op_addD (pdv 1) (pd_call G_law_pick (hr.mono (by omega)) tk rfl (pad_cons (pdv 0) (pad_cons pd_int pad_nil)))) pad_nil))) (pd_slice (pdv 2) (pod_some (pd_op op_addD (pdv 4) pd_int)) pod_none)))) pssd_nil)
    (pssd_cons (psd_if (pt_cmpD (op_eqG (u200 hr)) (pdv 3) pd_int (nomark _)) (pssd_one (psd_ret (pd_op op_addD (pd_op op_addD (pd_slice (pdv 2) pod_none (pod_some (pdv 4))) (pd_tup (pad_cons (pd_ix ix_G (pdv 2) (pdv 4) (fun _ _ => rfl)) pad_nil))) (pd_slice (pdv 2) (pod_some (pdv 4)) pod_none)))) pssd_nil)
    (pssd_one (psd_ret (pd_op op_addD (pdv 2) (pd_tup (pad_cons (pd_call G_law_pick (hr.mono (by omega)) tk rfl (pad_cons (pdv 0) (pad_cons (pd_op op_addD pd_int (pd_ix ix_G (pdv 2) (pd_neg pd_int) (fun _ _ => rfl))) pad_nil))) pad_nil))))))))))), h⟩
def t_law_refused (K : PySem.W.Frag) (A : Adr) : DS :=
  (dSeq (dTryAll K [⟨.ref A.OutOfRange, (some 2), fun y a => (dSeq (dIfS (dOr (dTru (dCB (isxF K y a) (dCons (dVar 2) (dCons (dC (.ref A.InvalidTerm)) dNil)))) (dOr (dTru (dCB (isxF K y a) (dCons (dVar 2) (dCons (dC (.ref A.SizeMismatch)) dNil)))) (dOr (dTru (dCB (isxF K y a) (dCons (dVar 2) (dCons (dC (.ref A.TooLarge)) dNil)))) (dTru (dCB (isxF K y a) (dCons (dVar 2) (dCons (dC (.ref A.InvalidPlan)) dNil))))))) (dRet (dC (.str "other"))) dNext)
    (dRet (dC (.str "range"))))⟩, ⟨.ref A.ProofsError, none, fun y a => (dRet (dC (.str "other")))⟩] (dDrop (dCall (sp_certified_outcome A) [] (dCons (dVar 0) (dCons (dVar 1) dNil)))))
    (dRet (dC (.str "let"))))
theorem ok_law_refused {f : Addr} {fd : FuncData} (T : Txt w K mg A) (G_certified_outcome : FnD P w K mg base 3 "certified_outcome" P_certified_outcome [] (sp_certified_outcome A)) (F : L2.Fun K "_law_refused" "_law_refused" s_law_refused f fd) (sp : DSp) (len : ∀ ds M Q E, sp ds M Q E → ds.length = P_law_refused.length) (h : ∀ ds M Q E, sp ds M Q E → t_law_refused K A (ends Q E) (dstart N_law_refused ds) M) :
    FnOk P w K mg base (L2.CX P w) (3 + 1) f fd P_law_refused (liftSp K sp) :=
  okD F sc_law_refused len fun cdv Ar outer s H E hr tk => ⟨t_law_refused K _, (pssd_cons (psd_try_all rfl rfl tk (fun W' pn xe tk hpo => (pssd_one (psd_expr (pd_call G_certified_outcome (hr.mono (by omega)) tk rfl (pad_cons (pdv 0) (pad_cons (pdv 1) pad_nil)))))) (hsd_cons (fun y a => (dSeq (dIfS (dOr (dTru (dCB (isxF K y a) (dCons (dVar 2) (dCons (dC (.ref A.InvalidTerm)) dNil)))) (dOr (dTru (dCB (isxF K y a) (dCons (dVar 2) (dCons (dC (.ref A.SizeMismatch)) dNil)))) (dOr (dTru (dCB (isxF K y a) (dCons (dVar 2) (dCons (dC (.ref A.TooLarge)) dNil)))) (dTru (dCB (isxF K y a) (dCons (dVar 2) (dCons (dC (.ref A.InvalidPlan)) dNil))))))) (dRet (dC (.str "other"))) dNext)
    (dRet (dC (.str "range"))))) ⟨rfl, by decide, Or.inl T.m_OutOfRange⟩ ⟨sc_law_refused.nd, rfl, rfl⟩ (fun y a oe pn hz hf => (pssd_cons (psd_if (PWD.pt (pwd_or (ptd_tru (pd_callB (call_isxF hz hf) (by exact rfl) T.n_isinstance bt_isinstance (pad_cons (pdv 2) (pad_cons (pd_cls (by exact rfl) T.m_InvalidTerm) pad_nil)))) (pwd_or (ptd_tru (pd_callB (call_isxF hz hf) (by exact rfl) T.n_isinstance bt_isinstance (pad_cons (pdv 2) (pad_cons (pd_cls (by exact rfl) T.m_SizeMismatch) pad_nil)))) (pwd_or (ptd_tru (pd_callB (call_isxF hz hf) (by exact rfl) T.n_isinstance bt_isinstance (pad_cons (pdv 2) (pad_cons (pd_cls (by exact rfl) T.m_TooLarge) pad_nil)))) (pwd_or1 (ptd_tru (pd_callB (call_isxF hz hf) (by exact rfl) T.n_isinstance bt_isinstance (pad_cons (pdv 2) (pad_cons (pd_cls (by exact rfl) T.m_InvalidPlan) pad_nil))))))))) (pssd_one (psd_ret pd_str)) pssd_nil)
    (pssd_one (psd_ret pd_str)))) (hsd_cons (fun y a => (dRet (dC (.str "other")))) ⟨rfl, by decide, Or.inl T.m_ProofsError⟩ True.intro (fun y a oe pn hz hf => (pssd_one (psd_ret pd_str))) .nil)))
    (pssd_one (psd_ret pd_str))), h⟩
def t_law_whole (K : PySem.W.Frag) (A : Adr) : DS :=
  (dSeq (dAsg (dLst dNil) (dName 3))
    (dSeq (dAsg (dLst dNil) (dName 4))
    (dSeq (dAsg (dCall (sp_law_scan 22) [] (dCons (dVar 2) (dCons (dVar 3) (dCons (dVar 4) dNil)))) (dName 5))
    (dSeq (dIfS (dB (dOp (oI0 fun i j => .bl (decide (i < j))) (dCB lenG (dCons (dVar 4) dNil)) (dC (.int 7)))) (dIfS (dNot (dTru (dCall (sp_law_small A) [] (dCons (dVar 1) (dCons (dVar 3) (dCons (dVar 5) (dCons (dVar 4) dNil))))))) (dRet (dC (.bl false))) dNext) (dIfS (dNot (dTru (dCall (sp_law_large A) [] (dCons (dVar 0) (dCons (dVar 1) (dCons (dVar 2) (dCons (dVar 3) (dCons (dVar 5) (dCons (dVar 4) dNil))))))))) (dRet (dC (.bl false))) dNext))
    (dSeq (dFor (dIter (dLst (dCons (dOp ixG (dCall (sp_law_fewest 22) [] (dCons (dVar 2) (dCons (dC (.int 0)) dNil))) (dC (.int 1))) (dCons (dTupRg (dCons (dCB lenG (dCons (dVar 4) dNil)) dNil)) (dCons (dTup dNil) dNil))))) (dName 6) (dIfS (dOr (dB (dOp neD (dCall (sp_law_refused A) [] (dCons (dVar 1) (dCons (dVar 6) dNil))) (dC (.str "let")))) (dB (dOp neD (dCall (sp_law_refused A) [] (dCons (dVar 1) (dCons (dCall sp_law_wrong [] (dCons (dVar 0) (dCons (dCB lenG (dCons (dVar 4) dNil)) (dCons (dVar 6) dNil)))) dNil))) (dC (.str "range"))))) (dRet (dC (.bl false))) dNext))
    (dRet (dC (.bl true))))))))
theorem ok_law_whole {f : Addr} {fd : FuncData} (T : Txt w K mg A) (G_law_fewest : FnD P w K mg base 22 "_law_fewest" P_law_fewest [] (sp_law_fewest 22)) (G_law_large : FnD P w K mg base 25 "_law_large" P_law_large [] (sp_law_large A)) (G_law_refused : FnD P w K mg base 4 "_law_refused" P_law_refused [] (sp_law_refused A)) (G_law_scan : FnD P w K mg base 22 "_law_scan" P_law_scan [] (sp_law_scan 22)) (G_law_small : FnD P w K mg base 25 "_law_small" P_law_small [] (sp_law_small A)) (G_law_wrong : FnD P w K mg base 2 "_law_wrong" P_law_wrong [] sp_law_wrong) (F : L2.Fun K "_law_whole" "_law_whole" s_law_whole f fd) (sp : DSp) (len : ∀ ds M Q E, sp ds M Q E → ds.length = P_law_whole.length) (h : ∀ ds M Q E, sp ds M Q E → t_law_whole K A (ends Q E) (dstart N_law_whole ds) M) :
    FnOk P w K mg base (L2.CX P w) (25 + 1) f fd P_law_whole (liftSp K sp) :=
  okD F sc_law_whole len fun cdv Ar outer s H E hr tk => ⟨t_law_whole K _, (pssd_cons (psd_set (i := 3) sc_law_whole.nd rfl (Or.inl rfl) (pd_lst pad_nil))
    (pssd_cons (psd_set (i := 4) sc_law_whole.nd rfl (Or.inl rfl) (pd_lst pad_nil))
    (pssd_cons (psd_set (i := 5) sc_law_whole.nd rfl (Or.inl rfl) (pd_call G_law_scan (hr.mono (by omega)) tk rfl (pad_cons (pdv 2) (pad_cons (pdv 3) (pad_cons (pdv 4) pad_nil)))))
    (pssd_cons (psd_if (pt_cmpD op_ltD (pd_callB call_lenG rfl T.n_len bt_len (pad_cons (pdv 4) pad_nil)) pd_int (nomark _)) (pssd_one (psd_if (ptd_not (ptd_tru (pd_call G_law_small (hr.mono (by omega)) tk rfl (pad_cons (pdv 1) (pad_cons (pdv 3) (pad_cons (pdv 5) (pad_cons (pdv 4) pad_nil))))))) (pssd_one (psd_ret pd_bl)) pssd_nil)) (pssd_one (psd_if (ptd_not (ptd_tru (pd_call G_law_large (hr.mono (by omega)) tk rfl (pad_cons (pdv 0) (pad_cons (pdv 1) (pad_cons (pdv 2) (pad_cons (pdv 3) (pad_cons (pdv 5) (pad_cons (pdv 4) pad_nil))))))))) (pssd_one (psd_ret pd_bl)) pssd_nil)))
    (pssd_cons (psd_for (passes_of rfl) rfl (pid_any (pd_lst (pad_cons (pd_ix ix_G (pd_call G_law_fewest (hr.mono (by omega)) tk rfl (pad_cons (pdv 2) (pad_cons pd_int pad_nil))) pd_int (fun _ _ => rfl)) (pad_cons (pd_tupRg1 rfl rfl T.n_tuple rfl T.n_range (pd_callB call_lenG rfl T.n_len bt_len (pad_cons (pdv 4) pad_nil))) (pad_cons (pd_tup pad_nil) pad_nil))))) (pgd_name (pg_name (i := 6) sc_law_whole.nd rfl (Or.inl rfl))) (pssd_one (psd_if (PWD.pt (pwd_or (pt_cmpD (op_neG (u200 hr)) (pd_call G_law_refused (hr.mono (by omega)) tk rfl (pad_cons (pdv 1) (pad_cons (pdv 6) pad_nil))) pd_str (nomark _)) (pwd_or1 (pt_cmpD (op_neG (u200 hr)) (pd_call G_law_refused (hr.mono (by omega)) tk rfl (pad_cons (pdv 1) (pad_cons (pd_call G_law_wrong (hr.mono (by omega)) tk rfl (pad_cons (pdv 0) (pad_cons (pd_callB call_lenG rfl T.n_len bt_len (pad_cons (pdv 4) pad_nil)) (pad_cons (pdv 6) pad_nil)))) pad_nil))) pd_str (nomark _))))) (pssd_one (psd_ret pd_bl)) pssd_nil)))
    (pssd_one (psd_ret pd_bl))))))), h⟩
def t_law_exchanged (K : PySem.W.Frag) (A : Adr) (n : Nat) : DS :=
  (dSeq (dIfS (dB (dOp eqD (dOp ixG (dVar 0) (dC (.int 0))) (dC (.str "end")))) (dRet (dTup (dCons (dC (.str "end")) (dCons (dOp (oI0 fun i j => .int (i - j)) (dC (.int 1)) (dOp ixG (dVar 0) (dC (.int 1)))) dNil)))) dNext)
    (dRet (dOp addD (dTup (dCons (dC (.str "node")) (dCons (dOp (oI0 fun i j => .int (i - j)) (dC (.int 1)) (dOp ixG (dVar 0) (dC (.int 1)))) dNil))) (dCB tupG (dCons (dLc (dIter (dSl (dVar 0) (dPart (dC (.int 2))) dNoP)) (fun d τ => τ.set 1 (some d)) dYes (dCall (sp_law_exchanged n) [] (dCons (dVar 1) dNil)) [1]) dNil)))))
theorem ok_law_exchanged {f : Addr} {fd : FuncData} {n : Nat} (T : Txt w K mg A) (G_law_exchanged : FnD P w K mg base (0 + n) "_law_exchanged" P_law_exchanged [] (sp_law_exchanged n)) (F : L2.Fun K "_law_exchanged" "_law_exchanged" s_law_exchanged f fd) (sp : DSp) (len : ∀ ds M Q E, sp ds M Q E → ds.length = P_law_exchanged.length) (h : ∀ ds M Q E, sp ds M Q E → t_law_exchanged K A n (ends Q E) (dstart N_law_exchanged ds) M) :
    FnOk P w K mg base (L2.CX P w) (0 + n + 1) f fd P_law_exchanged (liftSp K sp) :=
  okD F sc_law_exchanged len fun cdv Ar outer s H E hr tk => ⟨t_law_exchanged K _ n, (pssd_cons (psd_if (pt_cmpD (op_eqG (u200 hr)) (pd_ix ix_G (pdv 0) pd_int (fun _ _ => rfl)) pd_str (nomark _)) (pssd_one (psd_ret (pd_tup (pad_cons pd_str (pad_cons (pd_op op_subD pd_int (pd_ix ix_G (pdv 0) pd_int (fun _ _ => rfl))) pad_nil))))) pssd_nil)
    (pssd_one (psd_ret (pd_op op_addD (pd_tup (pad_cons pd_str (pad_cons (pd_op op_subD pd_int (pd_ix ix_G (pdv 0) pd_int (fun _ _ => rfl))) pad_nil))) (pd_callT call_tupG rfl T.n_tuple bt_tuple (pad_cons (pd_lc (own := [("inner", 1)]) (i := 1) rfl sc_law_exchanged.nd (pid_any (pd_slice (pdv 0) (pod_some pd_int) pod_none)) (blkOk_by (N := N_law_exchanged) (sc := defScope s_law_exchanged) (by decide +kernel)) (by decide) (fun _ _ _ _ _ => pg_name (i := 1) sc_law_exchanged.nd rfl (Or.inl rfl)) (fun _ _ _ _ _ => ptsd_nil) (fun _ _ _ _ _ => (pd_call G_law_exchanged (hr.mono (by omega)) tk0 rfl (pad_cons (pdv 1) pad_nil)))) pad_nil)))))), h⟩
def t_law_replaced (K : PySem.W.Frag) (A : Adr) (n : Nat) : DS :=
  (dSeq (dIfS (dB (dOp eqD (dOp ixG (dVar 0) (dC (.int 0))) (dC (.str "end")))) (dSeq (dAsg (dOp addD (dOp ixG (dVar 2) (dC (.int 0))) (dC (.int 1))) (dGSub (dVar 2) (dC (.int 0))))
    (dRet (dTup (dCons (dC (.str "end")) (dCons (dOp ixG (dVar 1) (dOp (oI0 fun i j => .int (i - j)) (dOp ixG (dVar 2) (dC (.int 0))) (dC (.int 1)))) dNil))))) dNext)
    (dRet (dOp addD (dSl (dVar 0) dNoP (dPart (dC (.int 2)))) (dCB tupG (dCons (dLc (dIter (dSl (dVar 0) (dPart (dC (.int 2))) dNoP)) (fun d τ => τ.set 3 (some d)) dYes (dCall (sp_law_replaced n) [] (dCons (dVar 3) (dCons (dVar 1) (dCons (dVar 2) dNil)))) [3]) dNil)))))
theorem ok_law_replaced {f : Addr} {fd : FuncData} {n : Nat} (T : Txt w K mg A) (G_law_replaced : FnD P w K mg base (0 + n) "_law_replaced" P_law_replaced [] (sp_law_replaced n)) (F : L2.Fun K "_law_replaced" "_law_replaced" s_law_replaced f fd) (sp : DSp) (len : ∀ ds M Q E, sp ds M Q E → ds.length = P_law_replaced.length) (h : ∀ ds M Q E, sp ds M Q E → t_law_replaced K A n (ends Q E) (dstart N_law_replaced ds) M) :
    FnOk P w K mg base (L2.CX P w) (0 + n + 1) f fd P_law_replaced (liftSp K sp) :=
  okD F sc_law_replaced len fun cdv Ar outer s H E hr tk => ⟨t_law_replaced K _ n, (pssd_cons (psd_if (pt_cmpD (op_eqG (u200 hr)) (pd_ix ix_G (pdv 0) pd_int (fun _ _ => rfl)) pd_str (nomark _)) (pssd_cons (psd_asg (pd_op op_addD (pd_ix ix_G (pdv 2) pd_int (fun _ _ => rfl)) pd_int) (pgd_sub (pdv 2) pd_int))
    (pssd_one (psd_ret (pd_tup (pad_cons pd_str (pad_cons (pd_ix ix_G (pdv 1) (pd_op op_subD (pd_ix ix_G (pdv 2) pd_int (fun _ _ => rfl)) pd_int) (fun _ _ => rfl)) pad_nil)))))) pssd_nil)
    (pssd_one (psd_ret (pd_op op_addD (pd_slice (pdv 0) pod_none (pod_some pd_int)) (pd_callT call_tupG rfl T.n_tuple bt_tuple (pad_cons (pd_lc (own := [("inner", 3)]) (i := 3) rfl sc_law_replaced.nd (pid_any (pd_slice (pdv 0) (pod_some pd_int) pod_none)) (blkOk_by (N := N_law_replaced) (sc := defScope s_law_replaced) (by decide +kernel)) (by decide) (fun _ _ _ _ _ => pg_name (i := 3) sc_law_replaced.nd rfl (Or.inl rfl)) (fun _ _ _ _ _ => ptsd_nil) (fun _ _ _ _ _ => (pd_call G_law_replaced (hr.mono (by omega)) tk0 rfl (pad_cons (pdv 3) (pad_cons (pdv 1) (pad_cons (pdv 2) pad_nil)))))) pad_nil)))))), h⟩
def t_law (K : PySem.W.Frag) (A : Adr) : DS :=
  (dSeq (dAsg (dCall (sp_law_start K) [] (dCons (dVar 0) dNil)) (dName 1))
    (dSeq (dAsg (dLst (dCons (dOp ixG (dLst (dCons (dC (.int 1)) (dCons (dC (.int 2)) (dCons (dC (.int 3)) (dCons (dC (.int 4)) (dCons (dC (.int 6)) (dCons (dC (.int 8)) dNil))))))) (dCall sp_law_pick [] (dCons (dVar 1) (dCons (dC (.int 6)) dNil)))) (dCons (dOp ixG (dLst (dCons (dC (.int 0)) (dCons (dC (.int 1)) (dCons (dC (.int 2)) (dCons (dC (.int 3)) (dCons (dC (.int 4)) (dCons (dC (.int 5)) (dCons (dC (.int 5)) dNil)))))))) (dCall sp_law_pick [] (dCons (dVar 1) (dCons (dC (.int 7)) dNil)))) dNil))) (dName 2))
    (dSeq (dAsg (dOp ixG (dLst (dCons (dC (.int 0)) (dCons (dC (.int 1)) (dCons (dC (.int 2)) (dCons (dC (.int 2)) (dCons (dC (.int 3)) (dCons (dC (.int 4)) (dCons (dC (.int 5)) dNil)))))))) (dCall sp_law_pick [] (dCons (dVar 1) (dCons (dC (.int 7)) dNil)))) (dName 3))
    (dSeq (dIfS (dB (dOp eqD (dCall sp_law_pick [] (dCons (dVar 1) (dCons (dC (.int 16)) dNil))) (dC (.int 0)))) (dSeq (dAsg (dLst (dCons (dOp ixG (dLst (dCons (dC (.int 30)) (dCons (dC (.int 90)) (dCons (dC (.int 200)) dNil)))) (dCall sp_law_pick [] (dCons (dVar 1) (dCons (dC (.int 3)) dNil)))) (dCons (dOp ixG (dLst (dCons (dC (.int 40)) (dCons (dC (.int 100)) (dCons (dC (.int 199)) dNil)))) (dCall sp_law_pick [] (dCons (dVar 1) (dCons (dC (.int 3)) dNil)))) dNil))) (dName 2))
    (dAsg (dOp ixG (dLst (dCons (dC (.int 6)) (dCons (dC (.int 12)) (dCons (dC (.int 20)) dNil)))) (dCall sp_law_pick [] (dCons (dVar 1) (dCons (dC (.int 3)) dNil)))) (dName 3))) dNext)
    (dSeq (dAsg (dCall (sp_law_tree 22) [] (dCons (dVar 1) (dCons (dVar 3) (dCons (dVar 2) dNil)))) (dName 4))
    (dSeq (dAsg (dMake A.Duel (sp_Duel_init A.Duel) [] (dCons (dVar 4) dNil)) (dName 5))
    (dSeq (dIfS (dNot (dTru (dCall (sp_law_whole A) [] (dCons (dVar 1) (dCons (dVar 5) (dCons (dVar 4) dNil)))))) (dRet (dC (.bl false))) dNext)
    (dSeq (dAsg (dLst dNil) (dName 6))
    (dSeq (dAsg (dLst dNil) (dName 7))
    (dSeq (dAsg (dCall (sp_law_scan 22) [] (dCons (dVar 4) (dCons (dVar 6) (dCons (dVar 7) dNil)))) (dName 8))
    (dSeq (dAsg (dCall (sp_law_replaced 22) [] (dCons (dVar 4) (dCons (dLc (dIter (dVar 7)) (fun d τ => τ.set 14 (some d)) dYes (dCall sp_law_pick [] (dCons (dVar 1) (dCons (dC (.int 2)) dNil))) [14]) (dCons (dLst (dCons (dC (.int 0)) dNil)) dNil)))) (dName 9))
    (dSeq (dIfS (dNot (dTru (dCall (sp_law_whole A) [] (dCons (dVar 1) (dCons (dMake A.Duel (sp_Duel_init A.Duel) [] (dCons (dVar 9) dNil)) (dCons (dVar 9) dNil)))))) (dRet (dC (.bl false))) dNext)
    (dSeq (dAsg (dCall (sp_swapped A.Duel) [] (dCons (dVar 5) dNil)) (dName 10))
    (dSeq (dIfS (dNot (dTru (dCall (sp_law_whole A) [] (dCons (dVar 1) (dCons (dVar 10) (dCons (dCall (sp_law_exchanged 22) [] (dCons (dVar 4) dNil)) dNil)))))) (dRet (dC (.bl false))) dNext)
    (dSeq (dAsg (dOp ixG (dCall (sp_law_fewest 22) [] (dCons (dVar 4) (dCons (dC (.int 0)) dNil))) (dC (.int 1))) (dName 11))
    (dSeq (dIfS (dOr (dNot (dTru (dCall (sp_law_same 24) [] (dCons (dCall (sp_least_certificate A.Duel) [] (dCons (dVar 10) dNil)) (dCons (dVar 11) dNil))))) (dNot (dTru (dCall (sp_law_same 24) [] (dCons (dCall (sp_least_certificate A.Duel) [] (dCons (dVar 5) dNil)) (dCons (dVar 11) dNil)))))) (dRet (dC (.bl false))) dNext)
    (dSeq (dAsg (dCB tupG (dCons (dLc (dRng1 (dCons (dCB lenG (dCons (dVar 7) dNil)) dNil)) (fun d τ => τ.set 14 (some d)) (dB (dOp (oI0 fun i j => .bl (decide (j < i))) (dCall sp_law_pick [] (dCons (dVar 1) (dCons (dC (.int 3)) dNil))) (dC (.int 0)))) (dVar 14) [14]) dNil)) (dName 12))
    (dSeq (dAsg (dCall sp_law_two [] (dCons (dVar 6) (dCons (dVar 8) (dCons (dVar 7) (dCons (dVar 12) dNil))))) (dName 13))
    (dSeq (dIfS (dNot (dTru (dCall (sp_law_same 24) [] (dCons (dCall (sp_certified_outcome A) [] (dCons (dVar 5) (dCons (dVar 12) dNil))) (dCons (dVar 13) dNil))))) (dRet (dC (.bl false))) dNext)
    (dSeq (dIfS (dB (dOp (isG true) (dVar 13) (dC .non))) (dAsg (dOp (oI0 fun i j => .int (i - j)) (dC (.int 1)) (dVar 13)) (dName 13)) dNext)
    (dRet (dCall (sp_law_same 24) [] (dCons (dCall (sp_certified_outcome A) [] (dCons (dVar 10) (dCons (dVar 12) dNil))) (dCons (dVar 13) dNil))))))))))))))))))))))))
theorem ok_law {f : Addr} {fd : FuncData} (T : Txt w K mg A) (G_Duel_init : MakD P w K mg base 25 "Duel" A.Duel P_Duel_init [] (sp_Duel_init A.Duel)) (G_law_exchanged : FnD P w K mg base 22 "_law_exchanged" P_law_exchanged [] (sp_law_exchanged 22)) (G_law_fewest : FnD P w K mg base 22 "_law_fewest" P_law_fewest [] (sp_law_fewest 22)) (G_law_pick : FnD P w K mg base 1 "_law_pick" P_law_pick [] sp_law_pick) (G_law_replaced : FnD P w K mg base 22 "_law_replaced" P_law_replaced [] (sp_law_replaced 22)) (G_law_same : FnD P w K mg base 24 "_law_same" P_law_same [] (sp_law_same 24)) (G_law_scan : FnD P w K mg base 22 "_law_scan" P_law_scan [] (sp_law_scan 22)) (G_law_start : FnD P w K mg base 1 "_law_start" P_law_start [] (sp_law_start K)) (G_law_tree : FnD P w K mg base 23 "_law_tree" P_law_tree [] (sp_law_tree 22)) (G_law_two : FnD P w K mg base 3 "_law_two" P_law_two [] sp_law_two) (G_law_whole : FnD P w K mg base 26 "_law_whole" P_law_whole [] (sp_law_whole A)) (G_certified_outcome : FnD P w K mg base 3 "certified_outcome" P_certified_outcome [] (sp_certified_outcome A)) (G_least_certificate : FnD P w K mg base 3 "least_certificate" P_least_certificate [] (sp_least_certificate A.Duel)) (G_swapped : FnD P w K mg base 27 "swapped" P_swapped [] (sp_swapped A.Duel)) (F : L2.Fun K "law" "law" s_law f fd) (sp : DSp) (len : ∀ ds M Q E, sp ds M Q E → ds.length = P_law.length) (h : ∀ ds M Q E, sp ds M Q E → t_law K A (ends Q E) (dstart N_law ds) M) :
    FnOk P w K mg base (L2.CX P w) (27 + 1) f fd P_law (liftSp K sp) :=
  okD F sc_law len fun cdv Ar outer s H E hr tk => ⟨t_law K _, (pssd_cons (psd_set (i := 1) sc_law.nd rfl (Or.inr rfl) (pd_call G_law_start (hr.mono (by omega)) tk rfl (pad_cons (pdv 0) pad_nil)))
    (pssd_cons (psd_set (i := 2) sc_law.nd rfl (Or.inl rfl) (pd_lst (pad_cons (pd_ix ix_G (pd_lst (pad_cons pd_int (pad_cons pd_int (pad_cons pd_int (pad_cons pd_int (pad_cons pd_int (pad_cons pd_int pad_nil))))))) (pd_call G_law_pick (hr.mono (by omega)) tk rfl (pad_cons (pdv 1) (pad_cons pd_int pad_nil))) (fun _ _ => rfl)) (pad_cons (pd_ix ix_G (pd_lst (pad_cons pd_int (pad_cons pd_int (pad_cons pd_int (pad_cons pd_int (pad_cons pd_int (pad_cons pd_int (pad_cons pd_int pad_nil)))))))) (pd_call G_law_pick (hr.mono (by omega)) tk rfl (pad_cons (pdv 1) (pad_cons pd_int pad_nil))) (fun _ _ => rfl)) pad_nil))))
    (pssd_cons (psd_set (i := 3) sc_law.nd rfl (Or.inl rfl) (pd_ix ix_G (pd_lst (pad_cons pd_int (pad_cons pd_int (pad_cons pd_int (pad_cons pd_int (pad_cons pd_int (pad_cons pd_int (pad_cons pd_int pad_nil)))))))) (pd_call G_law_pick (hr.mono (by omega)) tk rfl (pad_cons (pdv 1) (pad_cons pd_int pad_nil))) (fun _ _ => rfl)))
    (pssd_cons (psd_if (pt_cmpD (op_eqG (u200 hr)) (pd_call G_law_pick (hr.mono (by omega)) tk rfl (pad_cons (pdv 1) (pad_cons pd_int pad_nil))) pd_int (nomark _)) (pssd_cons (psd_set (i := 2) sc_law.nd rfl (Or.inl rfl) (pd_lst (pad_cons (pd_ix ix_G (pd_lst (pad_cons pd_int (pad_cons pd_int (pad_cons pd_int pad_nil)))) (pd_call G_law_pick (hr.mono (by omega)) tk rfl (pad_cons (pdv 1) (pad_cons pd_int pad_nil))) (fun _ _ => rfl)) (pad_cons (pd_ix ix_G (pd_lst (pad_cons pd_int (pad_cons pd_int (pad_cons pd_int pad_nil)))) (pd_call G_law_pick (hr.mono (by omega)) tk rfl (pad_cons (pdv 1) (pad_cons pd_int pad_nil))) (fun _ _ => rfl)) pad_nil))))
    (pssd_one (psd_set (i := 3) sc_law.nd rfl (Or.inl rfl) (pd_ix ix_G (pd_lst (pad_cons pd_int (pad_cons pd_int (pad_cons pd_int pad_nil)))) (pd_call G_law_pick (hr.mono (by omega)) tk rfl (pad_cons (pdv 1) (pad_cons pd_int pad_nil))) (fun _ _ => rfl))))) pssd_nil)
    (pssd_cons (psd_set (i := 4) sc_law.nd rfl (Or.inl rfl) (pd_call G_law_tree (hr.mono (by omega)) tk rfl (pad_cons (pdv 1) (pad_cons (pdv 3) (pad_cons (pdv 2) pad_nil)))))
    (pssd_cons (psd_set (i := 5) sc_law.nd rfl (Or.inl rfl) (pd_make G_Duel_init (hr.mono (by omega)) tk rfl (pad_cons (pdv 4) pad_nil)))
    (pssd_cons (psd_if (ptd_not (ptd_tru (pd_call G_law_whole (hr.mono (by omega)) tk rfl (pad_cons (pdv 1) (pad_cons (pdv 5) (pad_cons (pdv 4) pad_nil)))))) (pssd_one (psd_ret pd_bl)) pssd_nil)
    (pssd_cons (psd_set (i := 6) sc_law.nd rfl (Or.inl rfl) (pd_lst pad_nil))
    (pssd_cons (psd_set (i := 7) sc_law.nd rfl (Or.inl rfl) (pd_lst pad_nil))
    (pssd_cons (psd_set (i := 8) sc_law.nd rfl (Or.inl rfl) (pd_call G_law_scan (hr.mono (by omega)) tk rfl (pad_cons (pdv 4) (pad_cons (pdv 6) (pad_cons (pdv 7) pad_nil)))))
    (pssd_cons (psd_set (i := 9) sc_law.nd rfl (Or.inl rfl) (pd_call G_law_replaced (hr.mono (by omega)) tk rfl (pad_cons (pdv 4) (pad_cons (pd_lc (own := [("leaf", 14)]) (i := 14) rfl sc_law.nd (pid_any (pdv 7)) (blkOk_by (N := N_law) (sc := defScope s_law) (by decide +kernel)) (by decide) (fun _ _ _ _ _ => pg_name (i := 14) sc_law.nd rfl (Or.inl rfl)) (fun _ _ _ _ _ => ptsd_nil) (fun _ _ _ _ _ => (pd_call G_law_pick (hr.mono (by omega)) tk0 rfl (pad_cons (pdv 1) (pad_cons pd_int pad_nil))))) (pad_cons (pd_lst (pad_cons pd_int pad_nil)) pad_nil)))))
    (pssd_cons (psd_if (ptd_not (ptd_tru (pd_call G_law_whole (hr.mono (by omega)) tk rfl (pad_cons (pdv 1) (pad_cons (pd_make G_Duel_init (hr.mono (by omega)) tk rfl (pad_cons (pdv 9) pad_nil)) (pad_cons (pdv 9) pad_nil)))))) (pssd_one (psd_ret pd_bl)) pssd_nil)
    (pssd_cons (psd_set (i := 10) sc_law.nd rfl (Or.inl rfl) (pd_call G_swapped (hr.mono (by omega)) tk rfl (pad_cons (pdv 5) pad_nil)))
    (pssd_cons (psd_if (ptd_not (ptd_tru (pd_call G_law_whole (hr.mono (by omega)) tk rfl (pad_cons (pdv 1) (pad_cons (pdv 10) (pad_cons (pd_call G_law_exchanged (hr.mono (by omega)) tk rfl (pad_cons (pdv 4) pad_nil)) pad_nil)))))) (pssd_one (psd_ret pd_bl)) pssd_nil)
    (pssd_cons (psd_set (i := 11) sc_law.nd rfl (Or.inl rfl) (pd_ix ix_G (pd_call G_law_fewest (hr.mono (by omega)) tk rfl (pad_cons (pdv 4) (pad_cons pd_int pad_nil))) pd_int (fun _ _ => rfl)))
    (pssd_cons (psd_if (PWD.pt (pwd_or (ptd_not (ptd_tru (pd_call G_law_same (hr.mono (by omega)) tk rfl (pad_cons (pd_call G_least_certificate (hr.mono (by omega)) tk rfl (pad_cons (pdv 10) pad_nil)) (pad_cons (pdv 11) pad_nil))))) (pwd_or1 (ptd_not (ptd_tru (pd_call G_law_same (hr.mono (by omega)) tk rfl (pad_cons (pd_call G_least_certificate (hr.mono (by omega)) tk rfl (pad_cons (pdv 5) pad_nil)) (pad_cons (pdv 11) pad_nil)))))))) (pssd_one (psd_ret pd_bl)) pssd_nil)
    (pssd_cons (psd_set (i := 12) sc_law.nd rfl (Or.inl rfl) (pd_callT call_tupG rfl T.n_tuple bt_tuple (pad_cons (pd_lc (own := [("leaf", 14)]) (i := 14) rfl sc_law.nd (pid_rng1 rfl T.n_range (pad_cons (pd_callB call_lenG rfl T.n_len bt_len (pad_cons (pdv 7) pad_nil)) pad_nil)) (blkOk_by (N := N_law) (sc := defScope s_law) (by decide +kernel)) (by decide) (fun _ _ _ _ _ => pg_name (i := 14) sc_law.nd rfl (Or.inl rfl)) (fun _ _ _ _ _ => (ptsd_one (pt_cmpD op_gtD (pd_call G_law_pick (hr.mono (by omega)) tk0 rfl (pad_cons (pdv 1) (pad_cons pd_int pad_nil))) pd_int (nomark _)))) (fun _ _ _ _ _ => (pdv 14))) pad_nil)))
    (pssd_cons (psd_set (i := 13) sc_law.nd rfl (Or.inl rfl) (pd_call G_law_two (hr.mono (by omega)) tk rfl (pad_cons (pdv 6) (pad_cons (pdv 8) (pad_cons (pdv 7) (pad_cons (pdv 12) pad_nil))))))
    (pssd_cons (psd_if (ptd_not (ptd_tru (pd_call G_law_same (hr.mono (by omega)) tk rfl (pad_cons (pd_call G_certified_outcome (hr.mono (by omega)) tk rfl (pad_cons (pdv 5) (pad_cons (pdv 12) pad_nil))) (pad_cons (pdv 13) pad_nil))))) (pssd_one (psd_ret pd_bl)) pssd_nil)
    (pssd_cons (psd_if (pt_cmpD op_isNotG (pdv 13) pd_non (nomark _)) (pssd_one (psd_set (i := 13) sc_law.nd rfl (Or.inl rfl) (pd_op op_subD pd_int (pdv 13)))) pssd_nil)
    (pssd_one (psd_ret (pd_call G_law_same (hr.mono (by omega)) tk rfl (pad_cons (pd_call G_certified_outcome (hr.mono (by omega)) tk rfl (pad_cons (pdv 10) (pad_cons (pdv 12) pad_nil))) (pad_cons (pdv 13) pad_nil))))))))))))))))))))))))), h⟩
end
end K44

set_option maxHeartbeats 4000000
namespace K44
open PySem L2 DL
local macro_rules | `(tactic| walk_at "dl") => `(tactic| simp only [dSeq, dIfS, dB, dTru, truD, dOp, dVar, dC, dAsg, dAug, dCB, dCons, dNil, dRet, dRetN, dName, dGSub, dNext, ends, exOf, dstart, slot, oI0, oI, dAnd, dOr, dNot, dAndV, dOrV, dNotV, dNeg, dSl, dNoP, dPart, dFld, dFldS, dRaise, dLst, dTup, dFor, dIter, dRng1, dRng2, dCall, dMake, dMeth, dIxO, dLc, dYes, dGTup, dGCons, dGNil,
  lenG_T, addD_T, addD_int, mulD_int, lstG_T, mulD_T, eqD_T, eqD_int, neD_int, itemsOf_T, keepOf_T, tup_T, tup_T1, tupG_T, intG, List.nil_append, bne_iff_ne,
  List.map, List.length_cons, List.length_nil, List.cons_append, List.append_nil, List.replicate, List.set, List.getElem?_cons_zero, List.getElem?_cons_succ, Option.join_some, Option.bind_some, decide_eq_true_eq])
local macro_rules | `(tactic| walk_at "wp") => `(tactic| simp only [dSeq, dIfS, dB, dOp, dVar, dC, dAsg, dCB, dCons, dNil, dRet, dName, dGSub, dNext, ends, exOf, dstart, slot, oI0, oI, ixG, seqOf, atI, ixN, addD, mulD, intG, lenG, lenD, lstG, tupG, dLst, dTup, dFor, dRng1, dLoop,
  List.map, List.length_cons, List.length_nil, List.append, List.cons_append, List.nil_append, List.replicate, List.set, List.getElem?_cons_zero, List.getElem?_cons_succ, Option.join_some, Option.bind_some, decide_eq_true_eq])
variable {K : PySem.W.Frag} {A : Adr}
theorem cm1 {i : Int} (h : 0 ≤ i) (h2 : i < 4294967299) : CMulX i 48271 := mulx_ok (a := 33) (b := 16) (by omega) (by decide) (by decide)
theorem cm2 {i : Int} (h : 0 ≤ i) (h2 : i < 4294967299) : CMulX i 69621 := mulx_ok (a := 33) (b := 17) (by omega) (by decide) (by decide)
theorem r_law_pick : ∀ ds M Q E, sp_law_pick ds M Q E → t_law_pick K A (ends Q E) (dstart N_law_pick ds) M := by
  rintro ds M Q E ⟨s, l, ns, limit, rfl, ⟨hsl, hl, seed, pos, rest, hs, h1, h2, h3, h4, h5⟩, hlim, hlog, k⟩
  have hls : l ≠ s := Ne.symm hsl
  have fin : ∀ (M' : Mp) (i : Int) (seed pos rest : Int), M' = put M s (.lst [.int seed, .ref l, .int pos, .int rest]) → 0 ≤ seed → seed < 2147483647 → 0 ≤ pos → pos ≤ ns.length → 0 ≤ rest → dropQ Q (.int (i % limit)) M' := by
    rintro M' i seed pos rest rfl h1 h2 h3 h4 h5
    exact dropQ_of (k _ _ (Int.emod_nonneg _ (by omega)) (Int.emod_lt_of_pos _ hlim) (PSt.mk hsl hl h1 h2 h3 h4 h5)) .refl
  unfold t_law_pick N_law_pick
  walk_at "wp"
  have e10 : CPow 10 18 := by unfold CPow; decide
  have tail : ∀ (z : Int) (pos : Int), 0 ≤ pos → pos ≤ ns.length → CMulX (seed + z % 2147483647 + 1) 48271 ∧ CMulX ((seed + z % 2147483647 + 1) * 48271 % 2147483647) 69621 ∧ CDivW (((seed + z % 2147483647 + 1) * 48271 % 2147483647 * 69621 + 12345) % 2147483647) 7 ∧ 0 < limit ∧
      dropQ Q (.int (((seed + z % 2147483647 + 1) * 48271 % 2147483647 * 69621 + 12345) % 2147483647 / 7 % limit)) (put M s (.lst [.int (((seed + z % 2147483647 + 1) * 48271 % 2147483647 * 69621 + 12345) % 2147483647), .ref l, .int pos, .int rest])) := by
    intro z pos h3 h4
    refine ⟨cm1 (by omega) (by omega), cm2 (by omega) (by omega), ⟨by decide, by decide⟩, hlim, ?_⟩
    exact fin _ _ _ _ _ rfl (by omega) (by omega) h3 h4 h5
  by_cases c : limit ≤ rest
  · simp [hs, put_same, c]
    exact ⟨⟨hlim, hlog⟩, hlim, fin _ _ _ _ _ rfl h1 h2 h3 h4 (Int.ediv_nonneg h5 (by omega))⟩
  · by_cases c2 : pos < ns.length
    · have c3 : pos.toNat < ns.length := by omega
      simp [hs, hl, put_same, put_ne hls, put_put, c, c2, h3, List.getElem?_eq_getElem c3, e10]
      split
      · split
        · exact ⟨⟨hlim, hlog⟩, hlim, fin _ _ _ _ _ rfl h1 h2 (by omega) (by omega) (Int.ediv_nonneg (by omega) (by omega))⟩
        · exact tail _ _ (by omega) (by omega)
      · split
        · exact ⟨⟨hlim, hlog⟩, hlim, fin _ _ _ _ _ rfl h1 h2 (by omega) (by omega) (Int.ediv_nonneg (by omega) (by omega))⟩
        · exact tail _ _ (by omega) (by omega)
    · simp [hs, hl, put_same, put_ne hls, put_put, c, c2, e10]
      exact tail 11 _ (by omega) (by omega)
variable {mg : Str → Option Value}
theorem r_law_start : ∀ ds M Q E, sp_law_start1 ds M Q E → t_law_start K A (ends Q E) (dstart N_law_start ds) M := by
  rintro ds M Q E ⟨a, ns, rfl, hM, hl, k⟩
  have hs := seqOf_rol hM
  unfold t_law_start N_law_start
  walk_at "dl"
  rw [lenG_ref hs, List.length_map]
  simp only
  refine ⟨by omega, by omega, ?_⟩
  refine dLoop_inv (fun i τ M' => M' = M ∧ ∃ (seed : Int) (o : Option D), τ = [some (.ref a), some (.int seed), o] ∧ 0 ≤ seed ∧ seed < 2147483647) (fun _ _ _ _ _ => trivial) ?_ ?_ ⟨rfl, 7, _, rfl, by omega, by omega⟩
  · rintro i d τ M nxt hd ⟨rfl, seed, o, rfl, h1, h2⟩ hnx
    obtain ⟨hi, rfl⟩ := rng_at hd
    walk_at "dl"
    refine ⟨cm1 h1 (by omega), ?_⟩
    rw [ixG_ref hs (by omega) (by omega)]
    walk_at "dl"
    refine ⟨by omega, by omega, hnx _ _ ⟨rfl, _, _, rfl, by omega, by omega⟩⟩
  · rintro τ M ⟨rfl, seed, o, rfl, h1, h2⟩
    walk_at "dl"
    simp only [lstG, hs]
    intro l hl0
    refine ⟨by rw [sizeLine_eq]; omega, fun s hs0 => ?_⟩
    have nsl : s ≠ l := by rintro rfl; rw [put_same] at hs0; cases hs0
    refine dropQ_of (k s l _ ?_ ((sub_put hl0).put hs0)) .refl
    exact PSt.mk nsl put_same h1 h2 (by omega) (by omega) (by omega)
theorem r_law_startK : ∀ ds M Q E, sp_law_start2 K ds M Q E → t_law_startK K A (ends Q E) (dstart N_law_start ds) M := by
  rintro ds M Q E ⟨a, ns, rfl, hM, hl, k⟩
  unfold t_law_startK N_law_start
  walk_at "dl"
  refine ⟨ns, hM, by omega, by omega, ?_⟩
  refine dLoop_inv (fun i τ M' => M' = M ∧ ∃ (seed : Int) (o : Option D), τ = [some (.ref a), some (.int seed), o] ∧ 0 ≤ seed ∧ seed < 2147483647) (fun _ _ _ _ _ => trivial) ?_ ?_ ⟨rfl, 7, _, rfl, by omega, by omega⟩
  · rintro i d τ M nxt hd ⟨rfl, seed, o, rfl, h1, h2⟩ hnx
    obtain ⟨hi, rfl⟩ := rng_at hd
    walk_at "dl"
    refine ⟨cm1 h1 (by omega), ?_⟩
    refine ⟨ns, hM, by omega, by omega, ?_⟩
    walk_at "dl"
    refine ⟨by omega, by omega, hnx _ _ ⟨rfl, _, _, rfl, by omega, by omega⟩⟩
  · rintro τ M ⟨rfl, seed, o, rfl, h1, h2⟩
    walk_at "dl"
    refine ⟨ns, hM, fun l hl0 => ?_⟩
    refine ⟨by rw [sizeLine_eq]; omega, fun s hs0 => ?_⟩
    have nsl : s ≠ l := by rintro rfl; rw [put_same] at hs0; cases hs0
    refine dropQ_of (k s l _ ?_ ((sub_put hl0).put hs0)) .refl
    exact PSt.mk nsl put_same h1 h2 (by omega) (by omega) (by omega)
theorem okS_T {n : Nat} {xs : List Int} (h : xs.length ≤ 100000) : okS (n + 1) (T xs) := by
  unfold T
  rw [okS]
  refine ⟨n, rfl, by simpa using h, fun x hx => ?_⟩
  obtain ⟨i, _, rfl⟩ := List.mem_map.mp hx
  simp [okS, ok]
theorem r_law_same {n : Nat} : ∀ ds M Q E, sp_law_same (n + 1) ds M Q E → t_law_same K A n (ends Q E) (dstart N_law_same ds) M := by
  rintro ds M Q E ⟨d, rfl, hd, k⟩
  unfold t_law_same N_law_same
  have t1 : isB "tuple" "tuple" = true := by decide
  cases d with
  | tup xs =>
    rw [okS] at hd
    obtain ⟨m, rfl, hl, hx⟩ := hd
    walk_at "dl"
    simp only [isiG, tyName, t1, List.mem_cons, true_or, or_true, true_and, if_true, lenG, lenD, neD_int, Bool.not_true, Bool.false_eq_true, if_false, decide_true]
    refine ⟨by omega, by omega, fun p hp => ?_⟩
    refine dCL_inv (fun j M' => M' = put M p (.lst (((List.range j).map fun _ => true).map D.bl))) (fun _ _ _ _ => trivial) ?_ ?_ rfl
    · rintro j d M' nxt hd rfl hnx
      obtain ⟨hj, rfl⟩ := rng_at hd
      simp only [wipeD]
      walk_at "dl"
      have e1 : atI xs (j : Int) = some (xs[j]'(by omega)) := atI_nat (List.getElem?_eq_getElem _)
      simp only [ixG, e1, if_true]
      refine ⟨_, rfl, hx _ (List.getElem_mem _), ?_⟩
      simp only [put_same]
      refine ⟨by rw [List.length_map, List.length_map, List.length_range, sizeLine_eq]; omega, hnx _ ?_⟩
      rw [put_put, List.range_succ, List.map_append, List.map_append]
      rfl
    · rintro M' rfl
      unfold allG
      simp only [seqOf, put_same, Option.bind_some, blsOf_range]
      have e : ((List.range ((List.range xs.length).map fun i => D.int (i : Nat)).length).map fun _ => true).all id = true := by simp
      simp only [Int.toNat_natCast]
      rw [e]
      exact dropQ_of k (sub_put hp)
  | non =>
    walk_at "dl"
    simp [isiG, tyName, isB, isG, isNone]
    exact dropQ_of k .refl
  | bl b =>
    walk_at "dl"
    simp [isiG, tyName, isB, isG, isNone, eqD, eqG, eqOk, ok, dep, eqb]
    exact dropQ_of k .refl
  | int b =>
    walk_at "dl"
    simp [isiG, tyName, isB, isG, isNone]
    exact dropQ_of k .refl
  | str b =>
    walk_at "dl"
    simp [isiG, tyName, isB, isG, isNone, eqD, eqG]
    exact dropQ_of k .refl
  | ref b => simp [okS] at hd
  | ty b => simp [okS] at hd
end K44


set_option maxHeartbeats 4000000
namespace K44
open PySem L2 DL DU
local macro_rules | `(tactic| walk_at "dl") => `(tactic| simp only [dSeq, dIfS, dB, dTru, truD, dOp, dVar, dC, dAsg, dAug, dCB, dCons, dNil, dRet, dRetN, dName, dGSub, dNext, ends, exOf, dstart, slot, oI0, oI, dAnd, dOr, dNot, dAndV, dOrV, dNotV, dNeg, dSl, dNoP, dPart, dFld, dFldS, dRaise, dLst, dTup, dFor, dIter, dRng1, dRng2, dCall, dMake, dMeth, dIxO, dLc, dYes, dGTup, dGCons, dGNil, dDrop, dBreak, dBM, dDIn, dNever, dChain, dDGet, dDGet2, dDNew, dGSubD, dDStar,
  eqD_str, neD_str, eqD_int, neD_int, ixG_t0, ixG_t1, isiG_str, isi_int, isi_int_s, isi_int_t, isi_tup, isi_tup_s, isi_tup_i, isi_str_i, isi_str_t, lenG_tup, addD_int, mulD_int, intG, List.nil_append, bne_iff_ne, ofS_inj, Bool.false_bne, Bool.true_bne,
  List.map, List.length_cons, List.length_nil, List.cons_append, List.append_nil, List.replicate, List.set, List.getElem?_cons_zero, List.getElem?_cons_succ, Option.join_some, Option.bind_some, decide_eq_true_eq])
variable {K : PySem.W.Frag} {A : Adr}
theorem isi_none {M : Mp} {Q : DK} {n : String} (h : n ∈ ["bool", "int", "str", "tuple", "list", "dict"]) : isiG K [.non, .ty n] M Q = Q (.bl false) M := by
  simp only [List.mem_cons, List.not_mem_nil, or_false] at h
  rcases h with rfl | rfl | rfl | rfl | rfl | rfl <;> simp [isiG, tyName, isB]
theorem inG_tupS {hs : List Str} {x : Str} {n : Bool} {ds : List D} {M : Mp} {Q : DK} (hd : ds = hs.map D.str) : inG n (.str x) (.tup ds) M Q = Q (.bl (n != decide (x ∈ hs))) M := by
  subst hd
  unfold inG
  simp only [seqD, flat_strs, any_strs, flatD, true_and]
theorem r_is_outcome : ∀ ds M Q E, sp_is_outcome ds M Q E → t_is_outcome K A (ends Q E) (dstart N_is_outcome ds) M := by
  rintro ds M Q E ⟨i, rfl, k⟩
  unfold t_is_outcome N_is_outcome
  walk_at "dl"
  have k' := dropQ_of k (Sub.refl (M := M))
  unfold bit at k'
  by_cases c : 0 ≤ i
  · by_cases c2 : i ≤ 1
    · simp [c, c2]
      have : i = 0 ∨ i = 1 := by omega
      simpa [this] using k'
    · simp [c, c2]
      have : ¬ (i = 0 ∨ i = 1) := by omega
      simpa [this] using k'
  · simp [c]
    have : ¬ (i = 0 ∨ i = 1) := by omega
    simpa [this] using k'
theorem toDs_len : ∀ {ts : List Tr}, (toDs ts).length = ts.length := by
  intro ts; rw [toDs_map, List.length_map]
theorem outc {i : Int} {M : Mp} {Q : DK} {E : EK} (h : bit i) (k : Q (.bl true) M) : sp_is_outcome [.int i] M Q E := ⟨i, rfl, by simpa [h] using k⟩
theorem r_check_tree : ∀ ds M Q E, sp_check_tree ds M Q E → t_check_tree K A (ends Q E) (dstart N_check_tree ds) M := by
  rintro ds M Q E ⟨t, d, lv, rfl, w, hl, k⟩
  unfold t_check_tree N_check_tree
  cases t with
  | lf o =>
    simp only [Tr.toD]
    walk_at "dl"
    have e : (D.str "end" :: [D.str "node"]) = (["end", "node"] : List Str).map D.str := rfl
    simp [inG_tupS e]
    exact ⟨by rw [sizeLine_eq]; omega, o, rfl, by have h : bit o := w; simpa [h] using dropQ_of k (Sub.refl (M := M))⟩
  | nd s ts =>
    simp only [Tr.wf] at w
    rw [Tr.ht] at hl
    simp only [Tr.toD]
    walk_at "dl"
    have e : (D.str "end" :: [D.str "node"]) = (["end", "node"] : List Str).map D.str := rfl
    have l1 := toDs_len (ts := ts)
    have e1 : (1 : Nat) ≤ ts.length := w.2.1
    have c1 : (3 : Int) ≤ ((ts.length : Nat) : Int) + 1 + 1 := by omega
    have c2 : ((ts.length : Nat) : Int) + 1 + 1 ≤ 2 + 12 := by omega
    have c3 : ¬ (20 : Int) ≤ (lv : Nat) := by omega
    have c4 : ¬ (((ts.length : Nat) : Int) + 1 + 1 = 0) := by omega
    simp [inG_tupS e, l1]
    have sz : (2 : Nat) ≤ sizeLine := by rw [sizeLine_eq]; omega
    refine ⟨by omega, ?_⟩
    simp [c1, c2, c3, c4]
    exact ⟨sz, by omega, by omega, s, rfl, by have h : bit s := w.1; simpa [h] using dropQ_of k (Sub.refl (M := M))⟩
theorem r_entry_of : ∀ ds M Q E, sp_entry_of ds M Q E → t_entry_of K A (ends Q E) (dstart N_entry_of ds) M := by
  rintro ds M Q E ⟨c, W, E', ws, es, v, rfl, h1, h2, h3, k⟩
  unfold t_entry_of N_entry_of
  have k' := dropQ_of k (Sub.refl (M := M))
  cases c with
  | leaf l =>
    simp only [chD]
    walk_at "dl"
    simp
    rw [ixG_sq h2 h3]; exact k'
  | node n =>
    simp only [chD]
    walk_at "dl"
    simp
    rw [ixG_sq h1 h3]; exact k'
theorem r_law_at : ∀ ds M Q E, sp_law_at ds M Q E → t_law_at K A (ends Q E) (dstart N_law_at ds) M := by
  rintro ds M Q E ⟨c, W, E', ws, es, v, rfl, h1, h2, h3, k⟩
  unfold t_law_at N_law_at
  have k' := dropQ_of k (Sub.refl (M := M))
  cases c with
  | leaf l =>
    simp only [lchD]
    walk_at "dl"
    simp
    rw [ixG_sq h2 h3]; exact k'
  | node n =>
    simp only [lchD]
    walk_at "dl"
    simp
    rw [ixG_sq h1 h3]; exact k'
end K44

set_option maxHeartbeats 4000000
namespace K44
open PySem L2 DL DU
local macro_rules | `(tactic| walk_at "dl") => `(tactic| simp only [dSeq, dIfS, dB, dTru, truD, dOp, dVar, dC, dAsg, dAug, dCB, dCons, dNil, dRet, dRetN, dName, dGSub, dNext, ends, exOf, dstart, slot, oI0, oI, dAnd, dOr, dNot, dAndV, dOrV, dNotV, dNeg, dSl, dNoP, dPart, dFld, dFldS, dRaise, dLst, dTup, dFor, dIter, dRng1, dRng2, dCall, dMake, dMeth, dIxO, dLc, dYes, dGTup, dGCons, dGNil, dDrop, dBreak, dBM, dDIn, dNever, dChain, dDGet, dDGet2, dDNew, dGSubD, dDStar,
  eqD_str, neD_str, eqD_int, neD_int, ixG_t0, ixG_t1, isiG_str, isi_int, isi_int_s, isi_int_t, isi_tup, isi_tup_s, isi_tup_i, isi_str_i, isi_str_t, lenG_tup, addD_int, mulD_int, intG, List.nil_append, bne_iff_ne, ofS_inj, Bool.false_bne, Bool.true_bne,
  List.map, List.length_cons, List.length_nil, List.cons_append, List.append_nil, List.replicate, List.set, List.getElem?_cons_zero, List.getElem?_cons_succ, Option.join_some, Option.bind_some, decide_eq_true_eq])
variable {K : PySem.W.Frag} {A : Adr}
theorem cut2 {d e : D} {ds : List D} : cutD (d :: e :: ds) (some 2) none = ds := by
  have := cut_from (xs := d :: e :: ds) (i := 2) (by simp)
  simpa using this
theorem s2 : (2 : Nat) ≤ sizeLine := by rw [sizeLine_eq]; omega
theorem tup_put {M : Mp} {p : Addr} {xs : List D} {Q : DK} : tupG [.ref p] (put M p (.lst xs)) Q = Q (.tup xs) (put M p (.lst xs)) := by
  unfold tupG
  simp only [seqOf, put_same]
theorem wf_kid {s : Int} {ts : List Tr} {t : Tr} (w : (Tr.nd s ts).wf) (h : t ∈ ts) : t.wf := by
  rw [Tr.wf] at w
  exact wfL_mem.mp w.2.2.2 t h
theorem ht_kid {s : Int} {ts : List Tr} {t : Tr} {n : Nat} (w : (Tr.nd s ts).ht < n + 1) (h : t ∈ ts) : t.ht < n := by
  rw [Tr.ht] at w
  have := htL_mem h; omega
theorem len_kid {s : Int} {ts : List Tr} (w : (Tr.nd s ts).wf) : 1 ≤ ts.length ∧ ts.length ≤ 12 := by
  rw [Tr.wf] at w
  exact ⟨w.2.1, w.2.2.1⟩
theorem r_swapped_tree {n : Nat} : ∀ ds M Q E, sp_swapped_tree (n + 1) ds M Q E → t_swapped_tree K A n (ends Q E) (dstart N_swapped_tree ds) M := by
  rintro ds M Q E ⟨t, rfl, w, hh, k⟩
  have sz := s2
  unfold t_swapped_tree N_swapped_tree
  cases t with
  | lf o =>
    simp only [Tr.toD, Tr.sw] at k ⊢
    walk_at "dl"
    simp [slG, cut2, itemsOf, keepOf]
    refine ⟨sz, fun p hp => ?_⟩
    refine ⟨True.intro, ?_⟩
    simp only [tup_put]
    exact ⟨by simpa using sz, dropQ_of k (Sub.refl.put hp)⟩
  | nd s ts =>
    have hl := len_kid w
    simp only [Tr.toD, Tr.sw] at k ⊢
    walk_at "dl"
    simp [slG, cut2, itemsOf, keepOf]
    refine ⟨sz, fun p hp => ?_⟩
    refine dCL_map (xs := ts) Tr.toD (fun t => t.sw.toD) (toDs_map ts) (by omega) (fun _ => trivial) (fun t ht ys k' h => ?_) ?_
    · simp only [wipeD]
      walk_at "dl"
      exact ⟨t, rfl, wf_kid w ht, ht_kid hh ht, h⟩
    · rw [tup_put]
      refine ⟨by rw [sizeLine_eq]; simp; omega, ?_⟩
      rw [toDs_map, swL_map, List.map_map] at k
      exact dropQ_of k (Sub.refl.put hp)
theorem r_law_exchanged {n : Nat} : ∀ ds M Q E, sp_law_exchanged (n + 1) ds M Q E → t_law_exchanged K A n (ends Q E) (dstart N_law_exchanged ds) M := by
  rintro ds M Q E ⟨t, rfl, w, hh, k⟩
  have sz := s2
  unfold t_law_exchanged N_law_exchanged
  cases t with
  | lf o =>
    simp only [Tr.toD, Tr.sw] at k ⊢
    walk_at "dl"
    simp
    exact ⟨sz, dropQ_of k Sub.refl⟩
  | nd s ts =>
    have hl := len_kid w
    simp only [Tr.toD, Tr.sw] at k ⊢
    walk_at "dl"
    simp [slG, cut2, itemsOf, keepOf]
    refine ⟨sz, fun p hp => ?_⟩
    refine dCL_map (xs := ts) Tr.toD (fun t => t.sw.toD) (toDs_map ts) (by omega) (fun _ => trivial) (fun t ht ys k' h => ?_) ?_
    · simp only [wipeD]
      walk_at "dl"
      exact ⟨t, rfl, wf_kid w ht, ht_kid hh ht, h⟩
    · rw [tup_put]
      refine ⟨by rw [sizeLine_eq]; simp; omega, ?_⟩
      rw [toDs_map, swL_map, List.map_map] at k
      exact dropQ_of k (Sub.refl.put hp)
theorem reL_cons {es : List Int} {t : Tr} {ts : List Tr} {l : Nat} : reL es (t :: ts) l = t.re es l :: reL es ts (l + t.nl) := by rw [reL]
theorem reL_app {es : List Int} : ∀ (ts us : List Tr) (l : Nat), reL es (ts ++ us) l = reL es ts l ++ reL es us (l + nlL ts)
  | [], us, l => by simp [reL, nlL_nil]
  | t :: ts, us, l => by rw [List.cons_append, reL_cons, reL_app ts us, reL_cons, List.cons_append, nlL_cons, Nat.add_assoc]
theorem take_app {ts : List Tr} {i : Nat} {t : Tr} (h : ts[i]? = some t) : ts.take (i + 1) = ts.take i ++ [t] := by
  rw [List.take_succ, h]; rfl
end K44

set_option maxHeartbeats 4000000
namespace K44
open PySem L2 DL DU
local macro_rules | `(tactic| walk_at "dl") => `(tactic| simp only [dSeq, dIfS, dB, dTru, truD, dOp, dVar, dC, dAsg, dAug, dCB, dCons, dNil, dRet, dRetN, dName, dGSub, dNext, ends, exOf, dstart, slot, oI0, oI, dAnd, dOr, dNot, dAndV, dOrV, dNotV, dNeg, dSl, dNoP, dPart, dFld, dFldS, dRaise, dLst, dTup, dFor, dIter, dRng1, dRng2, dCall, dMake, dMeth, dIxO, dLc, dYes, dGTup, dGCons, dGNil, dDrop, dBreak, dBM, dDIn, dNever, dChain, dDGet, dDGet2, dDNew, dGSubD, dDStar,
  eqD_str, neD_str, eqD_int, neD_int, ixG_t0, ixG_t1, isiG_str, isi_int, isi_int_s, isi_int_t, isi_tup, isi_tup_s, isi_tup_i, isi_str_i, isi_str_t, lenG_tup, addD_int, mulD_int, intG, List.nil_append, bne_iff_ne, ofS_inj, Bool.false_bne, Bool.true_bne,
  List.map, List.length_cons, List.length_nil, List.cons_append, List.append_nil, List.replicate, List.set, List.getElem?_cons_zero, List.getElem?_cons_succ, Option.join_some, Option.bind_some, decide_eq_true_eq])
variable {K : PySem.W.Frag} {A : Adr}
theorem append_at {M : Mp} {p : Addr} {xs : List D} {y : D} {Q : DK} (h : M p = some (.lst xs)) : appendM (.ref p) [y] M Q = (xs.length < sizeLine ∧ Q .non (put M p (.lst (xs ++ [y])))) := by
  simp only [appendM, h]
theorem metT_list {M : Mp} {p : Addr} {xs : List D} (h : M p = some (.lst xs)) : metT "list" (.ref p) M = True := by simp [metT, h]
theorem kids_snoc {ts : List Tr} {i : Nat} {t : Tr} {n l : Nat} (h : ts[i]? = some t) : kidsL (ts.take (i + 1)) n l = kidsL (ts.take i) n l ++ t.kids (n + nnL (ts.take i)) (l + nlL (ts.take i)) := by
  rw [take_app h, kidsL_app, kidsL, kidsL, List.append_nil]
theorem roots_snoc {ts : List Tr} {i : Nat} {t : Tr} {n l : Nat} (h : ts[i]? = some t) : roots (ts.take (i + 1)) n l = roots (ts.take i) n l ++ [t.root (n + nnL (ts.take i)) (l + nlL (ts.take i))] := by
  rw [take_app h, roots_app, roots, roots]
theorem sides_snoc {ts : List Tr} {i : Nat} {t : Tr} (h : ts[i]? = some t) : sidesL (ts.take (i + 1)) = sidesL (ts.take i) ++ t.sides := by
  rw [take_app h, sidesL_app, sidesL, sidesL, List.append_nil]
theorem ends_snoc {ts : List Tr} {i : Nat} {t : Tr} (h : ts[i]? = some t) : endsL (ts.take (i + 1)) = endsL (ts.take i) ++ t.ends := by
  rw [take_app h, endsL_app, endsL, endsL, List.append_nil]
theorem nn_take {ts : List Tr} {i : Nat} : nnL (ts.take i) ≤ nnL ts := by
  have := nnL_app (ts := ts.take i) (us := ts.drop i)
  rw [List.take_append_drop] at this; omega
theorem nl_take {ts : List Tr} {i : Nat} : nlL (ts.take i) ≤ nlL ts := by
  have := nlL_app (ts := ts.take i) (us := ts.drop i)
  rw [List.take_append_drop] at this; omega
theorem nn_snoc {ts : List Tr} {i : Nat} {t : Tr} (h : ts[i]? = some t) : nnL (ts.take (i + 1)) = nnL (ts.take i) + t.nn := by unfold nnL Tr.nn; rw [sides_snoc h, List.length_append]
theorem nl_snoc {ts : List Tr} {i : Nat} {t : Tr} (h : ts[i]? = some t) : nlL (ts.take (i + 1)) = nlL (ts.take i) + t.nl := by unfold nlL Tr.nl; rw [ends_snoc h, List.length_append]
theorem toDs_at {ts : List Tr} {i : Nat} {d : D} (h : (toDs ts)[i]? = some d) : ∃ t, ts[i]? = some t ∧ d = t.toD := by
  rw [toDs_map, List.getElem?_map] at h
  cases e : ts[i]? with
  | none => rw [e] at h; cases h
  | some t => rw [e] at h; exact ⟨t, rfl, by simpa using h.symm⟩
theorem toDs_get {ts : List Tr} {i : Nat} {t : Tr} (h : ts[i]? = some t) : (toDs ts)[i]? = some t.toD := by rw [toDs_map, List.getElem?_map, h]; rfl
theorem noneOf {M M' : Mp} {S : Addr → Prop} {p : Addr} (e : Ext S M M') (n : ¬ S p) (h : M' p = none) : M p = none := by
  cases q : M p with
  | none => rfl
  | some o => rw [e p o n q] at h; cases h
set_option maxHeartbeats 2000000 in
theorem r_scan_tree {n : Nat} : ∀ ds M Q E, sp_scan_tree (n + 1) ds M Q E → t_scan_tree K A n (ends Q E) (dstart N_scan_tree ds) M := by
  rintro ds M Q E ⟨t, ps, lv, a, b, c, ss, xs, es, rfl, w, hh, hlv, hps, nab, nac, nbc, ha, hb, hc, hx, hn, hl, k⟩
  have sz := s2
  unfold t_scan_tree N_scan_tree
  simp only [dstart, List.map, List.length_cons, List.length_nil, List.replicate, List.cons_append, List.nil_append]
  refine seq_split (fun τ M' => M' = M ∧ τ = [some t.toD, some (.tup ps), some (.int (lv : Nat)), some (.tup [.ref a, .ref b, .ref c]), none, none, none, none, none, none]) ?_ ?_
  rotate_left
  · intro nx hnx
    walk_at "dl"
    exact ⟨t, .tup ps, lv, rfl, w, hlv, hnx _ _ ⟨rfl, rfl⟩⟩
  rintro τ M1 ⟨rfl, rfl⟩
  have sl : sizeLine = 16777216 := sizeLine_eq
  cases t with
  | lf o =>
    rw [nl_lf] at hl
    simp only [Tr.toD]
    walk_at "dl"
    simp only [decide_true, if_true, metT_list hc, append_at hc, List.length_map, true_and]
    refine ⟨by omega, ?_⟩
    rw [lenG_at put_same]
    walk_at "dl"
    refine ⟨by omega, ?_⟩
    refine dropQ_of (M := put M1 c (.lst (es.map D.int ++ [.int o]))) ?_ .refl
    have := k (put M1 c (.lst (es.map D.int ++ [.int o]))) (by rw [put_ne nac]; simpa [Tr.sides] using ha) (by rw [put_ne nbc]; simpa [Tr.kids] using hb) (by rw [put_same]; simp [Tr.ends]) (.set (.inr (.inr rfl)))
    simpa [Tr.root, chD] using this
  | nd s ts =>
    have lk := len_kid w
    have hnd : (Tr.nd s ts).nn = nnL ts + 1 := nn_nd
    have hnl : (Tr.nd s ts).nl = nlL ts := nl_nd
    have hhd : (Tr.nd s ts).ht = htL ts + 1 := by rw [Tr.ht]
    simp only [Tr.toD]
    have M2b : (put M1 a (.lst (ss.map D.int ++ [.int s]))) b = some (.lst xs) := by rw [put_ne nab.symm]; exact hb
    walk_at "dl"
    have en : ¬ (("node" : Str) = "end") := by decide
    simp only [en, decide_false, Bool.false_eq_true, if_false, lenG_at ha, metT_list ha, append_at ha, metT_list M2b, append_at M2b, List.length_map, true_and]
    refine ⟨by omega, by omega, by omega, ⟨by omega, by omega, by omega, by rw [toDs_len]; omega⟩, by rw [toDs_len]; omega, fun p hp => ?_⟩
    have pa : p ≠ a := by rintro rfl; rw [put_ne nab, put_same] at hp; cases hp
    have pb : p ≠ b := by rintro rfl; rw [put_same] at hp; cases hp
    have hp0 : M1 p = none := by rw [put_ne pb, put_ne pa] at hp; exact hp
    have pc : p ≠ c := by rintro rfl; rw [hc] at hp0; cases hp0
    have e0 : (((toDs ts).length + 1 + 1 : Nat) : Int) - 2 = ((ts.length : Nat) : Int) := by rw [toDs_len]; omega
    refine dCL_inv (fun i M' => M' a = some (.lst ((ss ++ s :: sidesL (ts.take i)).map D.int)) ∧ M' b = some (.lst (xs ++ .tup [] :: (kidsL (ts.take i) (ss.length + 1) es.length).map kidsD)) ∧ M' c = some (.lst ((es ++ endsL (ts.take i)).map D.int)) ∧ Ext (In3 a b c) M1 M' ∧ M' p = some (.lst ((roots (ts.take i) (ss.length + 1) es.length).map chD))) (fun _ _ _ _ => trivial) ?_ ?_ ?_
    · rintro i d M' nxt hd ⟨ia, ib, ic, ie, ip⟩ hnx
      obtain ⟨hi, rfl⟩ := rng_at hd
      have hi' : i < ts.length := by
        have := toDs_len (ts := ts); omega
      have e := List.getElem?_eq_getElem hi'
      have ht := List.mem_of_getElem? e
      have hk := nn_snoc e
      have hk2 := nl_snoc e
      have hk3 := nn_take (ts := ts) (i := i + 1)
      have hk4 := nl_take (ts := ts) (i := i + 1)
      have hh1 := htL_mem ht
      have q1 : (ss ++ s :: sidesL (ts.take i)).length = ss.length + 1 + nnL (ts.take i) := by simp [nnL]; omega
      have q2 : (es ++ endsL (ts.take i)).length = es.length + nlL (ts.take i) := by simp [nlL]
      simp only [wipeD]
      walk_at "dl"
      have g : (D.str "node" :: .int s :: toDs ts)[2 + i]? = some (ts[i]).toD := by
        rw [show 2 + i = (i + 1) + 1 by omega, List.getElem?_cons_succ, List.getElem?_cons_succ]; exact toDs_get e
      have g' : ((2 : Int) + ((i : Nat) : Int)) = ((2 + i : Nat) : Int) := by omega
      rw [g', ixG_nat g]
      simp only [addD, List.length_cons, List.length_nil]
      refine ⟨by omega, by omega, ts[i], ps ++ [.int ((2 + i : Nat) : Int)], lv + 1, a, b, c, ss ++ s :: sidesL (ts.take i), xs ++ .tup [] :: (kidsL (ts.take i) (ss.length + 1) es.length).map kidsD, es ++ endsL (ts.take i), by simp, wf_kid w ht, ht_kid hh ht, by omega, by simp; omega, nab, nac, nbc, ia, ib, ic, by simp [kidsL_len, nnL, hx], by omega, by omega, fun M2 ja jb jc je => ?_⟩
      have mp := je _ _ (by unfold In3; simp [pa, pb, pc]) ip
      simp only [mp, List.length_map, roots_len]
      refine ⟨by simp; omega, hnx _ ⟨?_, ?_, ?_, ?_, ?_⟩⟩
      · rw [put_ne pa.symm, ja, sides_snoc e]; simp
      · rw [put_ne pb.symm, jb, kids_snoc e, q1, q2]; simp
      · rw [put_ne pc.symm, jc, ends_snoc e]; simp
      · intro x o hx1 hx2
        have x1 : x ≠ p := by rintro rfl; rw [hp0] at hx2; cases hx2
        rw [put_ne x1]
        exact je _ _ hx1 (ie _ _ hx1 hx2)
      · rw [put_same, roots_snoc e, q1, q2]; simp
    · rintro M' ⟨ia, ib, ic, ie, ip⟩
      rw [len_rng, e0, Int.toNat_natCast, List.take_length] at ia ib ic ip
      simp only [tupG, seqOf_lst ip, ib]
      have e3 : ixN (xs ++ D.tup [] :: (kidsL ts (ss.length + 1) es.length).map kidsD).length ((ss.length : Nat) : Int) = some ss.length := by
        rw [ixN_in (by omega) (by simp; omega)]; simp
      simp only [e3]
      refine ⟨by omega, ?_⟩
      refine dropQ_of (M := put M' b (.lst (xs ++ kidsD (roots ts (ss.length + 1) es.length) :: (kidsL ts (ss.length + 1) es.length).map kidsD))) ?_ ?_
      · have := k (put M' b (.lst (xs ++ kidsD (roots ts (ss.length + 1) es.length) :: (kidsL ts (ss.length + 1) es.length).map kidsD))) (by rw [put_ne nab, ia]; simp [Tr.sides]) (by rw [put_same]; simp [Tr.kids]) (by rw [put_ne nbc.symm, ic]; simp [Tr.ends]) (ie.trans (.set (.inr (.inl rfl))))
        simpa [Tr.root, chD] using this
      · have : (xs ++ D.tup [] :: (kidsL ts (ss.length + 1) es.length).map kidsD).set ss.length (.tup ((roots ts (ss.length + 1) es.length).map chD)) = xs ++ kidsD (roots ts (ss.length + 1) es.length) :: (kidsL ts (ss.length + 1) es.length).map kidsD := by
          rw [List.set_append_right _ _ (by omega), hx, Nat.sub_self, List.set_cons_zero]; rfl
        rw [this]; exact .refl
    · refine ⟨?_, ?_, ?_, ?_, ?_⟩
      · rw [put_ne pa.symm, put_ne nab, put_same]; simp [sidesL]
      · rw [put_ne pb.symm, put_same]; simp [kidsL]
      · rw [put_ne pc.symm, put_ne nbc.symm, put_ne nac.symm, hc]; simp [endsL]
      · exact ((Ext.set (.inl rfl)).trans (.set (.inr (.inl rfl)))).trans (.lay hp)
      · rw [put_same]; simp [roots]
end K44

set_option maxHeartbeats 4000000
namespace K44
open PySem L2 DL DU
local macro_rules | `(tactic| walk_at "dl") => `(tactic| simp only [dSeq, dIfS, dB, dTru, truD, dOp, dVar, dC, dAsg, dAug, dCB, dCons, dNil, dRet, dRetN, dName, dGSub, dNext, ends, exOf, dstart, slot, oI0, oI, dAnd, dOr, dNot, dAndV, dOrV, dNotV, dNeg, dSl, dNoP, dPart, dFld, dFldS, dRaise, dLst, dTup, dFor, dIter, dRng1, dRng2, dCall, dMake, dMeth, dIxO, dLc, dYes, dGTup, dGCons, dGNil, dDrop, dBreak, dBM, dDIn, dNever, dChain, dDGet, dDGet2, dDNew, dGSubD, dDStar,
  eqD_str, neD_str, eqD_int, neD_int, ixG_t0, ixG_t1, isiG_str, isi_int, isi_int_s, isi_int_t, isi_tup, isi_tup_s, isi_tup_i, isi_str_i, isi_str_t, lenG_tup, addD_int, mulD_int, intG, List.nil_append, bne_iff_ne, ofS_inj, Bool.false_bne, Bool.true_bne,
  List.map, List.length_cons, List.length_nil, List.cons_append, List.append_nil, List.replicate, List.set, List.getElem?_cons_zero, List.getElem?_cons_succ, Option.join_some, Option.bind_some, decide_eq_true_eq])
variable {K : PySem.W.Frag} {A : Adr} {w : World} {mg : Str → Option Value}
theorem ixg {M : Mp} {k : Nat} {xs : List D} {d : D} {Q : DK} (h : xs[k]? = some d) : ixG (.tup xs) (.int ((k : Nat) : Int)) M Q = Q d M := ixG_nat h
theorem In3.new {S : Addr → Prop} {M M' : Mp} {a b c : Addr} {M0 : Mp} (ha : M0 a = none) (hb : M0 b = none) (hc : M0 c = none) (e : Ext (In3 a b c) M M') (s : Ext S M0 M) : Ext S M0 M' := fun x o n h => by
  refine e x o ?_ (s x o n h)
  rintro (rfl | rfl | rfl)
  · rw [ha] at h; cases h
  · rw [hb] at h; cases h
  · rw [hc] at h; cases h
set_option maxHeartbeats 2000000 in
theorem r_Duel_init (T : Txt w K mg A) : ∀ ds M Q E, sp_Duel_init A.Duel ds M Q E → t_Duel_init K A (ends Q E) (dstart N_Duel_init ds) M := by
  rintro ds M Q E ⟨x, t, rfl, hx, g, k⟩
  obtain ⟨w, hh, hn, hl⟩ := g
  unfold t_Duel_init N_Duel_init
  walk_at "dl"
  simp [-List.map]
  intro a ha b hb c hc
  have nab : a ≠ b := by rintro rfl; rw [put_same] at hb; cases hb
  have nac : a ≠ c := by rintro rfl; rw [put_ne nab, put_same] at hc; cases hc
  have nbc : b ≠ c := by rintro rfl; rw [put_same] at hc; cases hc
  have hb0 : M b = none := by rwa [put_ne nab.symm] at hb
  have hc0 : M c = none := by rwa [put_ne nbc.symm, put_ne nac.symm] at hc
  have xa : x ≠ a := by rintro rfl; rw [hx] at ha; cases ha
  have xb : x ≠ b := by rintro rfl; rw [hx] at hb0; cases hb0
  have xc : x ≠ c := by rintro rfl; rw [hx] at hc0; cases hc0
  have sl : sizeLine = 16777216 := sizeLine_eq
  refine ⟨by omega, t, [], 0, a, b, c, [], [], [], rfl, w, by omega, by omega, by simp; omega, nab, nac, nbc, ?_, ?_, put_same, rfl, by simp; omega, by simp; omega, fun M' ja jb jc je => ?_⟩
  · rw [put_ne nac, put_ne nab, put_same]; rfl
  · rw [put_ne nbc, put_same]
  have e0 : Ext (Is x) M M' := In3.new ha hb0 hc0 je ((Ext.lay ha).trans ((Ext.lay hb).trans (.lay hc)))
  have mx : M' x = some (.ins A.Duel []) := je _ _ (by unfold In3; simp [xa, xb, xc]) (by rw [put_ne xc, put_ne xb, put_ne xa]; exact hx)
  rw [List.nil_append] at ja jb jc
  have la : ∀ o Q, lenG [.ref a] (put M' x o) Q = Q (.int (t.nn : Nat)) (put M' x o) := fun o Q => by rw [lenG_at (by rw [put_ne xa.symm]; exact ja), List.length_map]; rfl
  have lc : ∀ o Q, lenG [.ref c] (put M' x o) Q = Q (.int (t.nl : Nat)) (put M' x o) := fun o Q => by rw [lenG_at (by rw [put_ne xc.symm]; exact jc), List.length_map]; rfl
  have ta : ∀ o Q, tupG [.ref a] (put M' x o) Q = Q (intsD t.sides) (put M' x o) := fun o Q => by unfold tupG; simp only [seqOf_lst (show (put M' x o) a = _ by rw [put_ne xa.symm]; exact ja)]; rfl
  have tb : ∀ o Q, tupG [.ref b] (put M' x o) Q = Q (.tup ((t.kids 0 0).map kidsD)) (put M' x o) := fun o Q => by unfold tupG; simp only [seqOf_lst (show (put M' x o) b = _ by rw [put_ne xb.symm]; exact jb)]; rfl
  have tc : ∀ o Q, tupG [.ref c] (put M' x o) Q = Q (intsD t.ends) (put M' x o) := fun o Q => by unfold tupG; simp only [seqOf_lst (show (put M' x o) c = _ by rw [put_ne xc.symm]; exact jc)]; rfl
  have c1 : ¬ (200 : Int) < (t.nn : Nat) := by omega
  have c2 : ¬ (200 : Int) < (t.nl : Nat) := by omega
  simp only [mx, la, lc, ta, tb, tc, put_same, put_put, if_neg c1, if_neg c2]
  refine ⟨T.d_Duel_root, by simp, T.d_Duel_tree, by simp [putFD], T.d_Duel_ends, ?_, T.d_Duel_sides, ?_, T.d_Duel_children, ?_, ?_⟩
  · simp [putFD, ofS_inj]
  · simp [putFD, ofS_inj]
  · simp [putFD, ofS_inj]
  · refine dropQ_of (k _ ?_ (e0.trans (.set rfl))) .refl
    unfold DuelAt
    rw [put_same]
    simp [putFD, duelF, ofS_inj]
theorem make_duel {M : Mp} {t : Tr} {Q : DK} {E : EK} {C : Addr} (g : good t) (k : ∀ x M', M x = none → DuelAt C M' x t → Sub M M' → Q (.ref x) M') : ∀ x, M x = none → sp_Duel_init C [.ref x, t.toD] (put M x (.ins C [])) (fun d M2 => d = .non ∧ Q (.ref x) M2) E :=
  fun x hx => ⟨x, t, rfl, put_same, g, fun M' d e => ⟨rfl, k x M' hx d fun a o h => e _ _ (fun z => by rw [z] at h; rw [hx] at h; cases h) (by
    rw [put_ne]; exact h
    rintro rfl; rw [hx] at h; cases h)⟩⟩
theorem all_put {M : Mp} {p : Addr} {bs : List Bool} {f : List Bool → Bool} {Q : DK} : allG f [.ref p] (put M p (.lst (bs.map D.bl))) Q = Q (.bl (f bs)) (put M p (.lst (bs.map D.bl))) := by
  unfold allG
  simp only [seqOf, put_same, Option.bind_some, blsOf_map]
theorem r_swapped (T : Txt w K mg A) : ∀ ds M Q E, sp_swapped A.Duel ds M Q E → t_swapped K A (ends Q E) (dstart N_swapped ds) M := by
  rintro ds M Q E ⟨a, t, rfl, d, g, k⟩
  unfold t_swapped N_swapped
  walk_at "dl"
  unfold DuelAt at d
  simp only [d]
  refine ⟨T.d_Duel_tree, t, rfl, g.1, by have := g.2.1; omega, ?_⟩
  exact make_duel (good_sw g) fun x M' h1 h2 h3 => dropQ_of (k x M' h1 h2 h3) .refl
end K44

set_option maxHeartbeats 4000000
namespace K44
open PySem L2 DL DU
local macro_rules | `(tactic| walk_at "dl") => `(tactic| simp only [dSeq, dIfS, dB, dTru, truD, dOp, dVar, dC, dAsg, dAug, dCB, dCons, dNil, dRet, dRetN, dName, dGSub, dNext, ends, exOf, dstart, slot, oI0, oI, dAnd, dOr, dNot, dAndV, dOrV, dNotV, dNeg, dSl, dNoP, dPart, dFld, dFldS, dRaise, dLst, dTup, dFor, dIter, dRng1, dRng2, dCall, dMake, dMeth, dIxO, dLc, dYes, dGTup, dGCons, dGNil, dDrop, dBreak, dBM, dDIn, dNever, dChain, dRngD, dZip, dRaiseI, dLstRg, dDGet, dDGet2, dDNew, dGSubD, dDStar,
  eqD_str, neD_str, eqD_int, neD_int, ixG_t0, ixG_t1, isiG_str, isi_int, isi_int_s, isi_int_t, isi_tup, isi_tup_s, isi_tup_i, isi_str_i, isi_str_t, lenG_tup, addD_int, mulD_int, intG, List.nil_append, bne_iff_ne, ofS_inj, Bool.false_bne, Bool.true_bne,
  List.map, List.length_cons, List.length_nil, List.cons_append, List.append_nil, List.replicate, List.set, List.getElem?_cons_zero, List.getElem?_cons_succ, Option.join_some, Option.bind_some, decide_eq_true_eq])
variable {K : PySem.W.Frag} {A : Adr} {w : World} {mg : Str → Option Value}
theorem put_none {M : Mp} {p x : Addr} {o : MO} (h : put M p o x = none) : x ≠ p ∧ M x = none := by
  by_cases c : x = p
  · subst c; rw [put_same] at h; cases h
  · rw [put_ne c] at h; exact ⟨c, h⟩
theorem split_at {α : Type} {xs ys : List α} {j : Nat} {x : α} (h : (xs ++ ys)[j]? = some x) : (j < xs.length ∧ xs[j]? = some x) ∨ ∃ m, j = xs.length + m ∧ ys[m]? = some x := by
  by_cases c : j < xs.length
  · rw [List.getElem?_append_left c] at h; exact .inl ⟨c, h⟩
  · rw [List.getElem?_append_right (by omega)] at h
    exact .inr ⟨j - xs.length, by omega, h⟩
set_option maxHeartbeats 2000000 in
theorem r_law_scan {n : Nat} : ∀ ds M Q E, sp_law_scan (n + 1) ds M Q E → t_law_scan K A n (ends Q E) (dstart N_law_scan ds) M := by
  rintro ds M Q E ⟨t, a, b, rs, es, rfl, w, hh, nab, ha, hb, hn, hl, k⟩
  have sl : sizeLine = 16777216 := sizeLine_eq
  unfold t_law_scan N_law_scan
  cases t with
  | lf o =>
    rw [nl_lf] at hl
    simp only [Tr.toD]
    walk_at "dl"
    simp only [decide_true, if_true, metT_list hb, append_at hb, List.length_map, true_and]
    refine ⟨by omega, ?_⟩
    rw [lenG_at put_same]
    walk_at "dl"
    refine ⟨by omega, ?_⟩
    refine dropQ_of (M := put M b (.lst (es.map D.int ++ [.int o]))) ?_ .refl
    have := k (put M b (.lst (es.map D.int ++ [.int o]))) [] (by rw [nn_lf]; rfl) (by rw [put_ne nab]; simpa using ha) (by rw [put_same]; simp [Tr.ends]) (.set (.inr rfl)) (fun j s k h => by simp [Tr.sides] at h)
    simpa [Tr.root, lchD] using this
  | nd s ts =>
    have lk := len_kid w
    have hnd : (Tr.nd s ts).nn = nnL ts + 1 := nn_nd
    have hnl : (Tr.nd s ts).nl = nlL ts := nl_nd
    simp only [Tr.toD]
    walk_at "dl"
    have en : ¬ (("node" : Str) = "end") := by decide
    try simp only [en, decide_false, Bool.false_eq_true, if_false]
    refine ⟨by omega, fun q hq => ?_⟩
    have aq : a ≠ q := by rintro rfl; rw [ha] at hq; cases hq
    have bq : b ≠ q := by rintro rfl; rw [hb] at hq; cases hq
    have ha1 : (put M q (.lst [])) a = some (.lst (rs.map D.ref)) := by rw [put_ne aq]; exact ha
    simp only [lenG_at ha1, metT_list ha1, List.length_map, true_and]
    refine ⟨by omega, fun r hr => ?_⟩
    obtain ⟨rq, hr0⟩ := put_none hr
    have ar : a ≠ r := by rintro rfl; rw [ha] at hr0; cases hr0
    have br : b ≠ r := by rintro rfl; rw [hb] at hr0; cases hr0
    have ha2 : (put (put M q (.lst [])) r (.lst [.int s, .ref q])) a = some (.lst (rs.map D.ref)) := by rw [put_ne ar]; exact ha1
    simp only [append_at ha2, List.length_map, slG, cut2, itemsOf, keepOf]
    refine ⟨by omega, ?_⟩
    have hM1 : ∀ x, (put (put (put M q (.lst [])) r (.lst [.int s, .ref q])) a (.lst (rs.map D.ref ++ [.ref r]))) x = none → M x = none := fun x hx => (put_none (put_none (put_none hx).2).2).2
    have m1a : (put (put (put M q (.lst [])) r (.lst [.int s, .ref q])) a (.lst (rs.map D.ref ++ [.ref r]))) a = some (.lst (rs.map D.ref ++ [.ref r])) := put_same
    have m1b : (put (put (put M q (.lst [])) r (.lst [.int s, .ref q])) a (.lst (rs.map D.ref ++ [.ref r]))) b = some (.lst (es.map D.int)) := by rw [put_ne nab.symm, put_ne br, put_ne bq]; exact hb
    have m1q : (put (put (put M q (.lst [])) r (.lst [.int s, .ref q])) a (.lst (rs.map D.ref ++ [.ref r]))) q = some (.lst []) := by rw [put_ne aq.symm, put_ne rq.symm, put_same]
    have m1r : (put (put (put M q (.lst [])) r (.lst [.int s, .ref q])) a (.lst (rs.map D.ref ++ [.ref r]))) r = some (.lst [.int s, .ref q]) := by rw [put_ne ar.symm, put_same]
    have m1e : Ext (In2 a b) M (put (put (put M q (.lst [])) r (.lst [.int s, .ref q])) a (.lst (rs.map D.ref ++ [.ref r]))) := ((Ext.lay hq).trans (.lay hr)).trans (.set (.inl rfl))
    generalize (put (put (put M q (.lst [])) r (.lst [.int s, .ref q])) a (.lst (rs.map D.ref ++ [.ref r]))) = M1 at *
    refine dLoop_inv (fun i τ M' => (∃ us : List Addr, us.length = nnL (ts.take i) ∧ M' a = some (.lst ((rs ++ r :: us).map D.ref)) ∧ NodesNew M1 M' us (sidesL (ts.take i)) (kidsL (ts.take i) (rs.length + 1) es.length)) ∧ M' b = some (.lst ((es ++ endsL (ts.take i)).map D.int)) ∧ M' q = some (.lst ((roots (ts.take i) (rs.length + 1) es.length).map lchD)) ∧ Ext (fun x => x = a ∨ x = b ∨ x = q) M1 M' ∧ ∃ o5, τ = [some (.tup (.str "node" :: .int s :: toDs ts)), some (.ref a), some (.ref b), some (.ref q), some (.int (rs.length : Nat)), o5]) (fun _ _ _ _ _ => trivial) ?_ ?_ ?_
    · rintro i d τ M' nxt hd ⟨⟨us, ul, ja, jn⟩, jb, jq, je, o5, rfl⟩ hnx
      obtain ⟨t, e, rfl⟩ := toDs_at hd
      have ht := List.mem_of_getElem? e
      have hk := nn_snoc e
      have hk2 := nl_snoc e
      have hk3 := nn_take (ts := ts) (i := i + 1)
      have hk4 := nl_take (ts := ts) (i := i + 1)
      have q1 : (rs ++ r :: us).length = rs.length + 1 + nnL (ts.take i) := by simp; omega
      have q2 : (es ++ endsL (ts.take i)).length = es.length + nlL (ts.take i) := by simp [nlL]
      walk_at "dl"
      refine ⟨by rw [metT_list jq]; trivial, t, a, b, rs ++ r :: us, es ++ endsL (ts.take i), rfl, wf_kid w ht, ht_kid hh ht, nab, ja, jb, by omega, by omega, fun M2 us2 ul2 ka kb ke kn => ?_⟩
      have kq := ke _ _ (by unfold In2; simp [aq.symm, bq.symm]) jq
      simp only [append_at kq, List.length_map, roots_len]
      refine ⟨by simp; omega, hnx _ _ ⟨⟨us ++ us2, by rw [List.length_append]; omega, by rw [put_ne aq, ka]; simp, ?_⟩, by rw [put_ne bq, kb, ends_snoc e]; simp, by rw [put_same, roots_snoc e, q1, q2]; simp, ?_, _, rfl⟩⟩
      · intro j sd ks h1 h2
        rw [sides_snoc e] at h1
        rw [kids_snoc e] at h2
        have lsi : (sidesL (ts.take i)).length = nnL (ts.take i) := rfl
        have lki : (kidsL (ts.take i) (rs.length + 1) es.length).length = nnL (ts.take i) := kidsL_len _ _ _
        rcases split_at h1 with ⟨c, h3⟩ | ⟨m, rfl, h3⟩
        · rw [List.getElem?_append_left (by omega)] at h2
          obtain ⟨r', o', g1, g2, g3, g4, g5⟩ := jn j sd ks h3 h2
          have na : ∀ x, M1 x = none → x ≠ a ∧ x ≠ b ∧ x ≠ q := fun x hx => ⟨(by rintro rfl; rw [m1a] at hx; cases hx), (by rintro rfl; rw [m1b] at hx; cases hx), (by rintro rfl; rw [m1q] at hx; cases hx)⟩
          obtain ⟨a1, a2, a3⟩ := na _ g2
          obtain ⟨b1, b2, b3⟩ := na _ g3
          exact ⟨r', o', by rw [List.getElem?_append_left (by omega)]; exact g1, g2, g3, by rw [put_ne a3]; exact ke _ _ (by unfold In2; simp [a1, a2]) g4, by rw [put_ne b3]; exact ke _ _ (by unfold In2; simp [b1, b2]) g5⟩
        · rw [List.getElem?_append_right (by omega), lki, show (sidesL (ts.take i)).length + m - nnL (ts.take i) = m by omega] at h2
          obtain ⟨r', o', g1, g2, g3, g4, g5⟩ := kn m sd ks h3 (by rw [q1, q2]; exact h2)
          have na : ∀ x, M' x = none → M1 x = none ∧ x ≠ q := fun x hx => by
            have xa : x ≠ a := by rintro rfl; rw [ja] at hx; cases hx
            have xb : x ≠ b := by rintro rfl; rw [jb] at hx; cases hx
            have xq : x ≠ q := by rintro rfl; rw [jq] at hx; cases hx
            exact ⟨noneOf je (by simp [xa, xb, xq]) hx, xq⟩
          exact ⟨r', o', by rw [List.getElem?_append_right (by omega), ul, show (sidesL (ts.take i)).length + m - nnL (ts.take i) = m by omega]; exact g1, (na _ g2).1, (na _ g3).1, by rw [put_ne (na _ g2).2]; exact g4, by rw [put_ne (na _ g3).2]; exact g5⟩
      · exact (je.trans (ke.wide fun x hx => by rcases hx with rfl | rfl <;> simp)).trans (.set (.inr (.inr rfl)))
    · rintro τ M' ⟨⟨us, ul, ja, jn⟩, jb, jq, je, o5, rfl⟩
      rw [toDs_len, List.take_length] at ul jn jb jq
      walk_at "dl"
      refine ⟨by omega, ?_⟩
      refine dropQ_of (M := M') ?_ .refl
      have e2 : Ext (In2 a b) M M' := fun x o hx hxo => by
        have xq : x ≠ q := by rintro rfl; rw [hq] at hxo; cases hxo
        refine je _ _ ?_ (m1e _ _ hx hxo)
        unfold In2 at hx
        rintro (z | z | z)
        · exact hx (.inl z)
        · exact hx (.inr z)
        · exact xq z
      have := k M' (r :: us) (by rw [List.length_cons]; omega) ja (by rw [jb]; simp [Tr.ends]) e2 (fun j sd ks h1 h2 => ?_)
      · simpa [Tr.root, lchD] using this
      · rw [Tr.sides] at h1
        rw [Tr.kids] at h2
        cases j with
        | zero =>
          rw [List.getElem?_cons_zero] at h1 h2
          cases h1; cases h2
          exact ⟨r, q, rfl, hr0, hq, je _ _ (by simp [ar.symm, br.symm, rq]) m1r, jq⟩
        | succ j =>
          rw [List.getElem?_cons_succ] at h1 h2
          obtain ⟨r', o', g1, g2, g3, g4, g5⟩ := jn j sd ks h1 h2
          exact ⟨r', o', by rw [List.getElem?_cons_succ]; exact g1, hM1 _ g2, hM1 _ g3, g4, g5⟩
    · exact ⟨⟨[], by simp [nnL_nil], by rw [m1a]; simp, fun j sd ks h1 h2 => by simp [sidesL] at h1⟩, by rw [m1b]; simp [endsL], by rw [m1q]; simp [roots], .refl, none, rfl⟩
end K44

set_option maxHeartbeats 4000000
namespace K44
open PySem L2 DL DU
local macro_rules | `(tactic| walk_at "dl") => `(tactic| simp only [dSeq, dIfS, dB, dTru, truD, dOp, dVar, dC, dAsg, dAug, dCB, dCons, dNil, dRet, dRetN, dName, dGSub, dNext, ends, exOf, dstart, slot, oI0, oI, dAnd, dOr, dNot, dAndV, dOrV, dNotV, dNeg, dSl, dNoP, dPart, dFld, dFldS, dRaise, dLst, dTup, dFor, dIter, dRng1, dRng2, dCall, dMake, dMeth, dIxO, dLc, dYes, dGTup, dGCons, dGNil, dDrop, dBreak, dBM, dDIn, dNever, dChain, dRngD, dZip, dRaiseI, dLstRg, dDGet, dDGet2, dDNew, dGSubD, dDStar,
  eqD_str, neD_str, eqD_int, neD_int, ixG_t0, ixG_t1, isiG_str, isi_int, isi_int_s, isi_int_t, isi_tup, isi_tup_s, isi_tup_i, isi_str_i, isi_str_t, lenG_tup, addD_int, mulD_int, intG, List.nil_append, bne_iff_ne, ofS_inj, Bool.false_bne, Bool.true_bne,
  List.map, List.length_cons, List.length_nil, List.cons_append, List.append_nil, List.replicate, List.set, List.getElem?_cons_zero, List.getElem?_cons_succ, Option.join_some, Option.bind_some, decide_eq_true_eq])
variable {K : PySem.W.Frag} {A : Adr} {w : World} {mg : Str → Option Value}
theorem ent {c : Ch} {W E : D} {ws es : List D} {v : D} {M : Mp} {Q : DK} {Ex : EK} (h : valC es ws v c) (h1 : sq W M = some ws) (h2 : sq E M = some es) (k : Q v M) : sp_entry_of [chD c, W, E] M Q Ex := ⟨c, W, E, ws, es, v, rfl, h1, h2, by cases c <;> exact h, k⟩
theorem lent {c : Ch} {W E : D} {ws es : List D} {v : D} {M : Mp} {Q : DK} {Ex : EK} (h : valC es ws v c) (h1 : sq W M = some ws) (h2 : sq E M = some es) (k : Q v M) : sp_law_at [lchD c, W, E] M Q Ex := ⟨c, W, E, ws, es, v, rfl, h1, h2, by cases c <;> exact h, k⟩
theorem sq_at {M : Mp} {p : Addr} {xs : List D} (h : M p = some (.lst xs)) : sq (.ref p) M = some xs := by unfold sq; exact seqOf_lst h
theorem sub_set {M0 M : Mp} {p : Addr} {o : MO} (s : Sub M0 M) (h : M0 p = none) : Sub M0 (put M p o) := s.put2 h
end K44

set_option maxHeartbeats 4000000
namespace K44
open PySem L2 DL DU
local macro_rules | `(tactic| walk_at "dl") => `(tactic| simp only [dSeq, dIfS, dB, dTru, truD, dOp, dVar, dC, dAsg, dAug, dCB, dCons, dNil, dRet, dRetN, dName, dGSub, dNext, ends, exOf, dstart, slot, oI0, oI, dAnd, dOr, dNot, dAndV, dOrV, dNotV, dNeg, dSl, dNoP, dPart, dFld, dFldS, dRaise, dLst, dTup, dFor, dIter, dRng1, dRng2, dCall, dMake, dMeth, dIxO, dLc, dYes, dGTup, dGCons, dGNil, dDrop, dBreak, dBM, dDIn, dNever, dChain, dRngD, dZip, dRaiseI, dLstRg, dDGet, dDGet2, dDNew, dGSubD, dDStar,
  eqD_str, neD_str, eqD_int, neD_int, ixG_t0, ixG_t1, isiG_str, isi_int, isi_int_s, isi_int_t, isi_tup, isi_tup_s, isi_tup_i, isi_str_i, isi_str_t, lenG_tup, addD_int, mulD_int, intG, List.nil_append, bne_iff_ne, ofS_inj, Bool.false_bne, Bool.true_bne,
  List.map, List.length_cons, List.length_nil, List.cons_append, List.append_nil, List.replicate, List.set, List.getElem?_cons_zero, List.getElem?_cons_succ, Option.join_some, Option.bind_some, decide_eq_true_eq])
variable {K : PySem.W.Frag} {A : Adr} {w : World} {mg : Str → Option Value}
theorem ixg_at {M : Mp} {a : Addr} {xs : List D} {i : Nat} {v : D} {Q : DK} (h : M a = some (.lst xs)) (e : xs[i]? = some v) : ixG (.ref a) (.int ((i : Nat) : Int)) M Q = Q v M := ixG_sq (sq_at h) e
theorem ixg_at0 {M : Mp} {a : Addr} {x : D} {xs : List D} {Q : DK} (h : M a = some (.lst (x :: xs))) : ixG (.ref a) (.int 0) M Q = Q x M := ixg_at (i := 0) h rfl
theorem ixg_at1 {M : Mp} {a : Addr} {x y : D} {xs : List D} {Q : DK} (h : M a = some (.lst (x :: y :: xs))) : ixG (.ref a) (.int 1) M Q = Q y M := ixg_at (i := 1) h rfl
theorem bnd {M M' : Mp} {p : Addr} {o o' : MO} (s : Sub M M') (h : M' p = some o') : Sub (put M p o) M' ↔ o = o' ∨ False := by
  constructor
  · intro z
    have := z p o put_same
    rw [h] at this; exact .inl (by cases this; rfl)
  · rintro (rfl | f)
    · intro x u hx
      by_cases c : x = p
      · subst c; rw [put_same] at hx; rw [h]; exact hx
      · rw [put_ne c] at hx; exact s _ _ hx
    · exact f.elim
theorem put_sub {M M' : Mp} {p : Addr} {o : MO} (s : Sub M M') (h : M' p = some o) : Sub (put M p o) M' := (bnd s h).mpr (.inl rfl)
set_option maxHeartbeats 2000000 in
theorem r_law_winners : ∀ ds M Q E, sp_law_winners ds M Q E → t_law_winners K A (ends Q E) (dstart N_law_winners ds) M := by
  rintro ds M Q E ⟨a, b, t, es, rfl, na, hb, g, hl, hbt, k⟩
  have hn := g.2.2.1
  have sl : sizeLine = 16777216 := sizeLine_eq
  obtain ⟨rs, ha, lr, nd⟩ := na
  unfold t_law_winners N_law_winners
  simp only [dstart, List.map, List.length_cons, List.length_nil, List.replicate, List.cons_append, List.nil_append]
  refine seq_split (fun τ M' => ∃ p, M p = none ∧ M' = put M p (.lst (rs.map fun _ => .int 0)) ∧ τ = [some (.ref a), some (.ref b), some (.ref p), none, none, none, none, none, none]) ?_ ?_
  rotate_left
  · intro nx hnx
    walk_at "dl"
    simp only [itemsOf, keepOf, seqOf_lst ha]
    intro p hp
    have pa : a ≠ p := by rintro rfl; rw [ha] at hp; cases hp
    refine dCL_map (xs := rs) D.ref (fun _ => D.int 0) rfl (by omega) (fun ys => seqOf_lst (by rw [put_ne pa]; exact ha)) (fun o ho ys k' h => ?_) (hnx _ _ ⟨p, hp, rfl, rfl⟩)
    walk_at "dl"
    exact h
  rintro τ M1 ⟨p, hp, rfl, rfl⟩
  have pa : a ≠ p := by rintro rfl; rw [ha] at hp; cases hp
  refine seq_split (fun τ M' => Sub M M' ∧ M' p = some (.lst ((wins es t).map D.int)) ∧ ∃ o3 o4 o5 o6 o7 o8, τ = [some (.ref a), some (.ref b), some (.ref p), o3, o4, o5, o6, o7, o8]) ?_ ?_
  rotate_left
  · intro nx hnx
    walk_at "dl"
    rw [lenG_at (by rw [put_ne pa]; exact ha)]
    simp only [List.length_map]
    refine ⟨by omega, by omega, ?_⟩
    rw [lr, Int.toNat_natCast]
    refine dLoop_inv (fun i τ M' => Sub M M' ∧ (∃ L, M' p = some (.lst L) ∧ Filled D.int (wins es t) (t.nn - i) L) ∧ ∃ o3 o4 o5 o6 o7 o8, τ = [some (.ref a), some (.ref b), some (.ref p), o3, o4, o5, o6, o7, o8]) (fun _ _ _ _ _ => trivial) ?_ ?_ ⟨Sub.refl.put hp, ⟨_, put_same, by rw [Nat.sub_zero, ← wins_len (es := es)]; exact fill_start (by rw [wins_len, List.length_map, lr])⟩, none, none, none, none, none, none, rfl⟩
    · rintro i dd τ M' nxt hd ⟨s, ⟨L, hL, hf⟩, o3, o4, o5, o6, o7, o8, rfl⟩ hnx'
      obtain ⟨hi, rfl⟩ := rng_at hd
      obtain ⟨j, hj⟩ : ∃ j, t.nn - i = j + 1 := ⟨t.nn - i - 1, by omega⟩
      have hj' : ((t.nn : Nat) : Int) - 1 - ((i : Nat) : Int) = ((j : Nat) : Int) := by omega
      rw [hj] at hf
      obtain ⟨sd, ks, n1, n2, n3⟩ := node_at (t := t) (j := j) (by omega)
      have hw := wins_at (es := es) n1 n2
      obtain ⟨r, o, e1, e2, e3⟩ := nd j sd ks n1 n2
      rw [Nat.zero_add] at e1
      have ha1 := s _ _ ha
      have f1 := s _ _ e2
      have f2 := s _ _ e3
      have hb1 := s _ _ hb
      have hks := kids_small t 0 0 g.1 ks (List.mem_of_getElem? n2)
      have i1 : (rs.map D.ref)[j]? = some (.ref r) := by rw [List.getElem?_map, e1]; rfl
      refine seq_split (fun τ M'' => M' = M'' ∧ τ = [some (.ref a), some (.ref b), some (.ref p), some (.int (i : Nat)), some (.int ((j : Nat) : Int)), o5, o6, o7, o8]) ?_ ?_
      rotate_left
      · intro nx hnx2
        walk_at "dl"
        simp only [lenG_at ha1, List.length_map, lr, hj']
        exact hnx2 _ _ ⟨rfl, rfl⟩
      rintro τ M2 ⟨rfl, rfl⟩
      walk_at "dl"
      simp only [ixg_at ha1 i1, ixg_at0 f1, ixg_at1 f1, itemsOf, keepOf, seqOf_lst f2]
      intro q hq
      have qp : p ≠ q := by rintro rfl; rw [hL] at hq; cases hq
      have qo : o ≠ q := by rintro rfl; rw [f2] at hq; cases hq
      have qb : b ≠ q := by rintro rfl; rw [hb1] at hq; cases hq
      refine dCL_map (xs := ks) lchD (fun c => D.int (atC (lv es) (fun m => (wins es t).getD m 0) c)) rfl (by omega) (fun ys => seqOf_lst (by rw [put_ne qo]; exact f2)) (fun c hc ys k' h => ?_) ?_
      · simp only [wipeD]
        walk_at "dl"
        refine lent (child_val (f := D.int) (by rw [wins_len]; exact n3 c hc) hf fun l hl2 => lv_at (by omega)) ?_ ?_ h
        · exact sq_at (by rw [put_ne qp]; exact hL)
        · exact sq_at (by rw [put_ne qb]; exact hb1)
      · have hq' : ∀ u, (put (put M' q (.lst (ks.map fun c => D.int (atC (lv es) (fun m => (wins es t).getD m 0) c)))) p u) q = some (.lst ((ks.map (atC (lv es) fun m => (wins es t).getD m 0)).map D.int)) := fun u => by rw [put_ne qp.symm, put_same, List.map_map]; rfl
        have hL' : (put M' q (.lst (ks.map fun c => D.int (atC (lv es) (fun m => (wins es t).getD m 0) c)))) p = some (.lst L) := by rw [put_ne qp]; exact hL
        have ix : ixN L.length ((j : Nat) : Int) = some j := by
          rw [ixN_in (by omega) (by have := hf.1; rw [wins_len] at this; omega)]; simp
        have fin : ∀ (x : Int) τ', wrule j sd (ks.map (atC (lv es) fun m => (wins es t).getD m 0)) = x → (∃ o3 o4 o5 o6 o7 o8, τ' = [some (.ref a), some (.ref b), some (.ref p), o3, o4, o5, o6, o7, o8]) → nxt τ' (put (put M' q (.lst (ks.map fun c => D.int (atC (lv es) (fun m => (wins es t).getD m 0) c)))) p (.lst (L.set j (.int x)))) := fun x τ' hx hτ => hnx' _ _ ⟨sub_set (s.put hq) hp, ⟨_, put_same, by rw [show t.nn - (i + 1) = j by omega]; rw [hx] at hw; exact fill_set hf hw⟩, hτ⟩
        have ix2 : ∀ v, ixN (L.set j v).length ((j : Nat) : Int) = some j := fun v => by rw [List.length_set]; exact ix
        simp only [hL', ix, inG_ints (hq' _), put_same, ix2, put_put, List.set_set]
        by_cases c : sd ∈ ks.map (atC (lv es) fun m => (wins es t).getD m 0)
        · simp only [c, decide_true, Bool.false_bne, if_true]
          exact fin _ _ (by unfold wrule; rw [if_pos c]) ⟨_, _, _, _, _, _, rfl⟩
        · simp only [c, decide_false, Bool.false_bne, Bool.true_bne, Bool.false_eq_true, if_false, if_true, Bool.not_false]
          exact fin _ _ (by unfold wrule; rw [if_neg c]) ⟨_, _, _, _, _, _, rfl⟩
    · rintro τ M' ⟨s, ⟨L, hL, hf⟩, hτ⟩
      rw [len_rng, Nat.sub_self] at hf
      exact hnx _ _ ⟨s, by rw [hL, fill_all hf], hτ⟩
  rintro τ M2 ⟨s2, h2, o3, o4, o5, o6, o7, o8, rfl⟩
  walk_at "dl"
  exact dropQ_of (k p hp) (put_sub s2 h2)
end K44

set_option maxHeartbeats 4000000
namespace K44
open PySem L2 DL DU
local macro_rules | `(tactic| walk_at "dl") => `(tactic| simp only [dSeq, dIfS, dB, dTru, truD, dOp, dVar, dC, dAsg, dAug, dCB, dCons, dNil, dRet, dRetN, dName, dGSub, dNext, ends, exOf, dstart, slot, oI0, oI, dAnd, dOr, dNot, dAndV, dOrV, dNotV, dNeg, dSl, dNoP, dPart, dFld, dFldS, dRaise, dLst, dTup, dFor, dIter, dRng1, dRng2, dCall, dMake, dMeth, dIxO, dLc, dYes, dGTup, dGCons, dGNil, dDrop, dBreak, dBM, dDIn, dNever, dChain, dRngD, dZip, dRaiseI, dLstRg, dDGet, dDGet2, dDNew, dGSubD, dDStar,
  eqD_str, neD_str, eqD_int, neD_int, ixG_t0, ixG_t1, isiG_str, isi_int, isi_int_s, isi_int_t, isi_tup, isi_tup_s, isi_tup_i, isi_str_i, isi_str_t, lenG_tup, addD_int, mulD_int, intG, List.nil_append, bne_iff_ne, ofS_inj, Bool.false_bne, Bool.true_bne,
  List.map, List.length_cons, List.length_nil, List.cons_append, List.append_nil, List.replicate, List.set, List.getElem?_cons_zero, List.getElem?_cons_succ, Option.join_some, Option.bind_some, decide_eq_true_eq])
variable {K : PySem.W.Frag} {A : Adr} {w : World} {mg : Str → Option Value}
theorem bit_of {r : Int} (h0 : 0 ≤ r) (h1 : r < 2) : bit r := by unfold bit; omega
theorem wf_lf {r : Int} (h : bit r) : (Tr.lf r).wf := by rw [Tr.wf]; exact h
theorem wf_nd {r : Int} {ts : List Tr} (h : bit r) (h1 : 1 ≤ ts.length) (h2 : ts.length ≤ 12) (h3 : wfL ts) : (Tr.nd r ts).wf := by rw [Tr.wf]; exact ⟨h, h1, h2, h3⟩
theorem wfL_app {ts us : List Tr} (a : wfL ts) (b : wfL us) : wfL (ts ++ us) := wfL_mem.mpr fun t h => by
  rcases List.mem_append.mp h with h | h
  · exact wfL_mem.mp a t h
  · exact wfL_mem.mp b t h
theorem wfL_one {t : Tr} (h : t.wf) : wfL [t] := by rw [wfL, wfL]; exact ⟨h, trivial⟩
theorem htL_app {ts us : List Tr} {n : Nat} (a : htL ts ≤ n) (b : htL us ≤ n) : htL (ts ++ us) ≤ n := htL_le.mpr fun t h => by
  rcases List.mem_append.mp h with h | h
  · exact htL_le.mp a t h
  · exact htL_le.mp b t h
theorem htL_one {t : Tr} : htL [t] = t.ht := by simp [htL]
theorem nn_one {t : Tr} : nnL [t] = t.nn := by rw [nnL_cons, nnL_nil]; rfl
theorem nl_one {t : Tr} : nlL [t] = t.nl := by rw [nlL_cons, nlL_nil]; rfl
theorem ht_lf {r : Int} : (Tr.lf r).ht = 0 := by rw [Tr.ht]
theorem ht_nd {r : Int} {ts : List Tr} : (Tr.nd r ts).ht = htL ts + 1 := by rw [Tr.ht]
def manies : List D := [.int 1, .int 2, .int 2, .int 2, .int 3, .int 3, .int 5, .int 12]
set_option maxHeartbeats 2000000 in
theorem r_law_tree {n : Nat} : ∀ ds M Q E, sp_law_tree (n + 1) ds M Q E → t_law_tree K A n (ends Q E) (dstart N_law_tree ds) M := by
  rintro ds M Q E ⟨s, l, ns, lv, ro, x, y, rfl, P, nrs, nrl, hro, hlv, hx, hy, k⟩
  have sl : sizeLine = 16777216 := sizeLine_eq
  have J := LS.zero (S := In2 s ro) P (.inl rfl)
  have O : Own (In2 s ro) M M s l ro (.lst [.int (x : Nat), .int (y : Nat)]) := ⟨hro, .inr (.inr rfl), nrs, nrl⟩
  unfold t_law_tree N_law_tree
  simp only [dstart, List.map, List.length_cons, List.length_nil, List.replicate, List.cons_append, List.nil_append]
  refine seq_split (fun τ M' => (0 < lv ∧ 0 < x) ∧ M = M' ∧ τ = [some (.ref s), some (.int (lv : Nat)), some (.ref ro), none, none, none, none]) ?_ ?_
  rotate_left
  · intro nx hnx
    refine ifS_p (lv = 0 ∨ x = 0) (fun Q' E' q1 q2 => ?_) (fun c => ?_) fun c => hnx _ _ ⟨by omega, rfl, rfl⟩
    · walk_at "dl"
      simp only [ixg_at0 hro]
      by_cases c1 : ((lv : Nat) : Int) = 0
      · simp only [c1, decide_true, if_true]; exact q1 (.inl (by omega))
      · simp only [c1, decide_false, Bool.false_eq_true, if_false]
        by_cases c2 : ((x : Nat) : Int) = 0
        · simp only [eqD_int, c2, decide_true]; exact q1 (.inr (by omega))
        · simp only [eqD_int, c2, decide_false]; exact q2 (by omega)
    · walk_at "dl"
      refine J.pick (by decide) (by decide) fun r M2 r0 r1 J2 e2 => ⟨by omega, ?_⟩
      have := k (.lf r) M2 x y (wf_lf (bit_of r0 r1)) (by rw [ht_lf]; omega) (by rw [nn_lf]; omega) (by rw [nl_lf]; omega) J2.P J2.X (O.ext e2).a
      rw [Tr.toD] at this
      exact dropQ_of this .refl
  rintro τ M1 ⟨⟨l0, x0⟩, rfl, rfl⟩
  refine seq_split (fun τ M' => LS (In2 s ro) M M' s l ns ∧ Own (In2 s ro) M M' s l ro (.lst [.int (x : Nat), .int (y : Nat)]) ∧ ∃ m : Nat, 1 ≤ m ∧ m ≤ 12 ∧ m ≤ 1 + y ∧ τ = [some (.ref s), some (.int (lv : Nat)), some (.ref ro), some (.int (m : Nat)), none, none, none]) ?_ ?_
  rotate_left
  · intro nx hnx
    walk_at "dl"
    simp only [ixg_at1 hro]
    refine ⟨by omega, ?_⟩
    refine J.chooseP (vs := manies) rfl (by decide) (by decide) fun q v M2 hv J2 e2 => ?_
    have e2' : Ext (Is s) M M2 := e2
    have O2 := O.ext e2'
    have : ∃ m : Nat, 1 ≤ m ∧ m ≤ 12 ∧ v = .int (m : Nat) := by
      simp only [manies, List.mem_cons, List.not_mem_nil, or_false] at hv
      rcases hv with rfl | rfl | rfl | rfl | rfl | rfl | rfl | rfl
      · exact ⟨1, by omega, by omega, rfl⟩
      · exact ⟨2, by omega, by omega, rfl⟩
      · exact ⟨2, by omega, by omega, rfl⟩
      · exact ⟨2, by omega, by omega, rfl⟩
      · exact ⟨3, by omega, by omega, rfl⟩
      · exact ⟨3, by omega, by omega, rfl⟩
      · exact ⟨5, by omega, by omega, rfl⟩
      · exact ⟨12, by omega, by omega, rfl⟩
    obtain ⟨m, m1, m2, rfl⟩ := this
    simp only [mmG]
    split
    · exact hnx _ _ ⟨J2, O2, m, m1, m2, by omega, rfl⟩
    · refine hnx _ _ ⟨J2, O2, 1 + y, by omega, by omega, by omega, ?_⟩
      have : (1 : Int) + ((y : Nat) : Int) = ((1 + y : Nat) : Int) := by omega
      rw [this]
  rintro τ M2 ⟨J2, O2, m, m1, m2, m3, rfl⟩
  refine seq_split (fun τ M' => LS (In2 s ro) M M' s l ns ∧ Own (In2 s ro) M M' s l ro (.lst [.int ((x - 1 : Nat) : Int), .int (y : Nat)]) ∧ τ = [some (.ref s), some (.int (lv : Nat)), some (.ref ro), some (.int (m : Nat)), none, none, none]) ?_ ?_
  rotate_left
  · intro nx hnx
    walk_at "dl"
    simp only [ixg_at0 O2.a, O2.a, List.length_cons, List.length_nil, show ixN (0 + 1 + 1) 0 = some 0 from rfl, List.set_cons_zero]
    have : ((x : Nat) : Int) - 1 = ((x - 1 : Nat) : Int) := by omega
    rw [this]
    exact hnx _ _ ⟨J2.set O2, O2.set, rfl⟩
  rintro τ M3 ⟨J3, O3, rfl⟩
  refine seq_split (fun τ M' => LS (In2 s ro) M M' s l ns ∧ Own (In2 s ro) M M' s l ro (.lst [.int ((x - 1 : Nat) : Int), .int ((y - (m - 1) : Nat) : Int)]) ∧ τ = [some (.ref s), some (.int (lv : Nat)), some (.ref ro), some (.int (m : Nat)), none, none, none]) ?_ ?_
  rotate_left
  · intro nx hnx
    walk_at "dl"
    simp only [ixg_at1 O3.a, O3.a, List.length_cons, List.length_nil, show ixN (0 + 1 + 1) 1 = some 1 from rfl, List.set_cons_succ, List.set_cons_zero]
    have : ((y : Nat) : Int) - (((m : Nat) : Int) - 1) = ((y - (m - 1) : Nat) : Int) := by omega
    rw [this]
    exact hnx _ _ ⟨J3.set O3, O3.set, rfl⟩
  rintro τ M4 ⟨J4, O4, rfl⟩
  refine seq_split (fun τ M' => LS (In2 s ro) M M' s l ns ∧ Own (In2 s ro) M M' s l ro (.lst [.int ((x - 1 : Nat) : Int), .int ((y - (m - 1) : Nat) : Int)]) ∧ ∃ p, p ≠ ro ∧ Own (In2 s ro) M M' s l p (.lst []) ∧ τ = [some (.ref s), some (.int (lv : Nat)), some (.ref ro), some (.int (m : Nat)), some (.ref p), none, none]) ?_ ?_
  rotate_left
  · intro nx hnx
    walk_at "dl"
    exact ⟨by omega, fun p hp => hnx _ _ ⟨J4.new hp, O4.lay hp, p, (by rintro rfl; rw [O4.a] at hp; cases hp), .new J4 hp, rfl⟩⟩
  rintro τ M5 ⟨J5, O5, p, npr, Op5, rfl⟩
  refine seq_split (fun τ M' => LS (In2 s ro) M M' s l ns ∧ ∃ (ts : List Tr) (x' y' : Nat) (o5 o6 : Option D), Own (In2 s ro) M M' s l ro (.lst [.int (x' : Nat), .int (y' : Nat)]) ∧ Own (In2 s ro) M M' s l p (.lst (ts.map Tr.toD)) ∧ ts.length = m ∧ wfL ts ∧ htL ts ≤ lv - 1 ∧ nnL ts + x' ≤ x - 1 ∧ nlL ts + y' ≤ y - (m - 1) + m ∧ τ = [some (.ref s), some (.int (lv : Nat)), some (.ref ro), some (.int (m : Nat)), some (.ref p), o5, o6]) ?_ ?_
  rotate_left
  · intro nx hnx
    walk_at "dl"
    simp only [Int.toNat_natCast]
    refine ⟨by omega, by omega, ?_⟩
    refine dLoop_inv (fun i τ M' => LS (In2 s ro) M M' s l ns ∧ ∃ (ts : List Tr) (x' y' : Nat) (o5 o6 : Option D), Own (In2 s ro) M M' s l ro (.lst [.int (x' : Nat), .int (y' : Nat)]) ∧ Own (In2 s ro) M M' s l p (.lst (ts.map Tr.toD)) ∧ ts.length = i ∧ wfL ts ∧ htL ts ≤ lv - 1 ∧ nnL ts + x' ≤ x - 1 ∧ nlL ts + y' ≤ y - (m - 1) + i ∧ τ = [some (.ref s), some (.int (lv : Nat)), some (.ref ro), some (.int (m : Nat)), some (.ref p), o5, o6]) (fun _ _ _ _ _ => trivial) ?_ ?_ ⟨J5, [], _, _, none, none, O5, Op5, rfl, by simp [wfL], by simp [htL], by rw [nnL_nil]; omega, by rw [nlL_nil]; omega, rfl⟩
    · rintro i d τ M' nxt hd ⟨J', ts, x', y', o5, o6, Or, Op, lt, wt, ht, nt, nlt, rfl⟩ hnx'
      obtain ⟨hi, rfl⟩ := rng_at hd
      refine seq_split (fun τ M'' => M' = M'' ∧ τ = [some (.ref s), some (.int (lv : Nat)), some (.ref ro), some (.int (m : Nat)), some (.ref p), some (.int (i : Nat)), some (.int ((lv - 1 : Nat) : Int))]) ?_ ?_
      rotate_left
      · intro nx2 hnx2
        walk_at "dl"
        have : ((lv : Nat) : Int) - 1 = ((lv - 1 : Nat) : Int) := by omega
        rw [this]
        exact hnx2 _ _ ⟨rfl, rfl⟩
      rintro τ M6 ⟨rfl, rfl⟩
      refine seq_split (fun τ M'' => LS (In2 s ro) M M'' s l ns ∧ Ext (Is s) M' M'' ∧ ∃ dp : Nat, dp ≤ lv - 1 ∧ τ = [some (.ref s), some (.int (lv : Nat)), some (.ref ro), some (.int (m : Nat)), some (.ref p), some (.int (i : Nat)), some (.int (dp : Nat))]) ?_ ?_
      rotate_left
      · intro nx2 hnx2
        walk_at "dl"
        refine J'.pick (by decide) (by decide) fun r M2 r0 r1 J2 e2 => ?_
        by_cases c : r = 0
        · simp only [c, eqD_int, decide_true, if_true]
          exact hnx2 _ _ ⟨J2, e2, 0, by omega, rfl⟩
        · simp only [c, eqD_int, decide_false, Bool.false_eq_true, if_false]
          exact hnx2 _ _ ⟨J2, e2, _, by omega, rfl⟩
      rintro τ M6 ⟨J6, e6, dp, hdp, rfl⟩
      have Or6 := Or.ext e6
      have Op6 := Op.ext e6
      walk_at "dl"
      refine ⟨by rw [metT_list Op6.a]; trivial, s, l, ns, dp, ro, x', y', rfl, J6.P, nrs, nrl, Or6.a, by omega, by omega, by omega, fun t M7 x2 y2 wt2 ht2 nt2 nl2 P7 e7 h7 => ?_⟩
      have np : ¬ In2 s ro p := by unfold In2; simp [Op.ns, npr]
      have J7 : LS (In2 s ro) M M7 s l ns := ⟨P7, J6.X.trans e7, J6.S⟩
      have Op7 := Op6.extS np e7
      have Or7 : Own (In2 s ro) M M7 s l ro (.lst [.int (x2 : Nat), .int (y2 : Nat)]) := ⟨h7, .inr (.inr rfl), nrs, nrl⟩
      simp only [append_at Op7.a, List.length_map]
      refine ⟨by omega, hnx' _ _ ⟨J7.set Op7, ts ++ [t], x2, y2, some (.int (i : Nat)), some (.int (dp : Nat)), Or7.put npr, by simpa using Op7.set, by simp [lt], wfL_app wt (wfL_one wt2), htL_app ht (by rw [htL_one]; omega), by rw [nnL_app, nn_one]; omega, by rw [nlL_app, nl_one]; omega, rfl⟩⟩
    · rintro τ M' ⟨J', ts, x', y', o5, o6, Or, Op, lt, wt, ht, nt, nlt, rfl⟩
      rw [len_rng] at lt nlt
      exact hnx _ _ ⟨J', ts, x', y', o5, o6, Or, Op, lt, wt, ht, nt, nlt, rfl⟩
  rintro τ M6 ⟨J6, ts, x', y', o5, o6, Or, Op, lt, wt, ht, nt, nlt, rfl⟩
  refine seq_split (fun τ M' => LS (In2 s ro) M M' s l ns ∧ ∃ (ts : List Tr), Own (In2 s ro) M M' s l ro (.lst [.int (x' : Nat), .int (y' : Nat)]) ∧ Own (In2 s ro) M M' s l p (.lst (ts.map Tr.toD)) ∧ ts.length = m ∧ wfL ts ∧ htL ts ≤ lv - 1 ∧ nnL ts + x' ≤ x - 1 ∧ nlL ts + y' ≤ y - (m - 1) + m ∧ τ = [some (.ref s), some (.int (lv : Nat)), some (.ref ro), some (.int (m : Nat)), some (.ref p), o5, o6]) ?_ ?_
  rotate_left
  · intro nx hnx
    walk_at "dl"
    refine J6.pick (by decide) (by decide) fun r M2 r0 r1 J2 e2 => ?_
    have Or2 := Or.ext e2
    have Op2 := Op.ext e2
    by_cases c : r = 0
    · simp only [c, eqD_int, decide_true, if_true, metT_list Op2.a, reverseM, Op2.a, true_and]
      exact hnx _ _ ⟨J2.set Op2, ts.reverse, Or2.put npr, by simpa using Op2.set, by simp [lt], wfL_mem.mpr fun t h => wfL_mem.mp wt t (List.mem_reverse.mp h), htL_le.mpr fun t h => htL_le.mp ht t (List.mem_reverse.mp h), by rw [nnL_rev]; exact nt, by rw [nlL_rev]; exact nlt, rfl⟩
    · simp only [c, eqD_int, decide_false, Bool.false_eq_true, if_false]
      exact hnx _ _ ⟨J2, ts, Or2, Op2, lt, wt, ht, nt, nlt, rfl⟩
  rintro τ M7 ⟨J7, ts, Or, Op, lt, wt, ht, nt, nlt, rfl⟩
  walk_at "dl"
  refine J7.pick (by decide) (by decide) fun r M8 r0 r1 J8 e8 => ⟨by omega, ?_⟩
  have Op8 := Op.ext e8
  simp only [tupG, seqOf_lst Op8.a, addD, List.length_map, List.length_cons, List.length_nil]
  refine ⟨by omega, ?_⟩
  have := k (.nd r ts) M8 x' y' (wf_nd (bit_of r0 r1) (by omega) (by omega) wt) (by rw [ht_nd]; omega) (by rw [nn_nd]; omega) (by rw [nl_nd]; omega) J8.P J8.X (Or.ext e8).a
  rw [Tr.toD, toDs_map] at this
  exact dropQ_of this .refl
end K44

set_option maxHeartbeats 4000000
namespace K44
open PySem L2 DL DU
local macro_rules | `(tactic| walk_at "dl") => `(tactic| simp only [dSeq, dIfS, dB, dTru, truD, dOp, dVar, dC, dAsg, dAug, dCB, dCons, dNil, dRet, dRetN, dName, dGSub, dNext, ends, exOf, dstart, slot, oI0, oI, dAnd, dOr, dNot, dAndV, dOrV, dNotV, dNeg, dSl, dNoP, dPart, dFld, dFldS, dRaise, dLst, dTup, dFor, dIter, dRng1, dRng2, dCall, dMake, dMeth, dIxO, dLc, dYes, dGTup, dGCons, dGNil, dDrop, dBreak, dBM, dDIn, dNever, dChain, dRngD, dZip, dRaiseI, dLstRg, dDGet, dDGet2, dDNew, dGSubD, dDStar,
  eqD_str, neD_str, eqD_int, neD_int, ixG_t0, ixG_t1, isiG_str, isi_int, isi_int_s, isi_int_t, isi_tup, isi_tup_s, isi_tup_i, isi_str_i, isi_str_t, lenG_tup, addD_int, mulD_int, intG, List.nil_append, bne_iff_ne, ofS_inj, Bool.false_bne, Bool.true_bne,
  List.map, List.length_cons, List.length_nil, List.cons_append, List.append_nil, List.replicate, List.set, List.getElem?_cons_zero, List.getElem?_cons_succ, Option.join_some, Option.bind_some, decide_eq_true_eq])
variable {K : PySem.W.Frag} {A : Adr} {w : World} {mg : Str → Option Value}
theorem sq_sub {M M' : Mp} {d : D} {xs : List D} (s : Sub M M') (h : sq d M = some xs) : sq d M' = some xs := by
  unfold sq at h ⊢
  split at h
  · exact h
  · unfold seqOf at h ⊢
    split at h
    · rename_i e; rw [s _ _ e]; exact h
    · rename_i e; rw [s _ _ e]; exact h
    · cases h
  · cases h
theorem put_self {M : Mp} {p : Addr} {o : MO} (h : M p = some o) : put M p o = M := by
  funext x; unfold put; split
  · rename_i e; rw [e, h]
  · rfl
set_option maxHeartbeats 2000000
theorem any_pl {vs : List (Option Int)} {x : Int} : ((vs.map plD).any fun d => eqb d (.int x)) = decide (some x ∈ vs) := by
  induction vs with
  | nil => simp
  | cons v vs ih =>
    rw [List.map_cons, List.any_cons, ih]
    cases v with
    | none => simp [plD, eqb]
    | some v =>
      simp only [plD, eqb, List.mem_cons, Option.some.injEq]
      by_cases c : v = x
      · subst c; simp
      · have c2 : ¬ x = v := fun h => c h.symm
        simp [c, c2]
theorem any_plN {vs : List (Option Int)} : ((vs.map plD).any fun d => eqb d .non) = decide (none ∈ vs) := by
  induction vs with
  | nil => simp
  | cons v vs ih =>
    rw [List.map_cons, List.any_cons, ih]
    cases v with
    | none => simp [plD, eqb]
    | some v => simp [plD, eqb]
theorem flat_pl {vs : List (Option Int)} : (vs.map plD).all flatD = true := by
  rw [List.all_eq_true]
  intro d hd
  obtain ⟨v, _, rfl⟩ := List.mem_map.mp hd
  cases v <;> rfl
theorem inG_pl {vs : List (Option Int)} {x : Int} {n : Bool} {p : Addr} {M : Mp} {Q : DK} (h : M p = some (.lst (vs.map plD))) : inG n (.int x) (.ref p) M Q = Q (.bl (n != decide (some x ∈ vs))) M := by
  unfold inG
  simp only [seqD, seqOf_lst h, flat_pl, any_pl, flatD, true_and]
theorem inG_plN {vs : List (Option Int)} {n : Bool} {p : Addr} {M : Mp} {Q : DK} (h : M p = some (.lst (vs.map plD))) : inG n .non (.ref p) M Q = Q (.bl (n != decide (none ∈ vs))) M := by
  unfold inG
  simp only [seqD, seqOf_lst h, flat_pl, any_plN, flatD, true_and]
theorem vals3_len {es : List (Option Int)} {t : Tr} : (vals3 es t).length = t.nn := vals_len w3 (lo es) t 0 0
theorem vals3_at {es : List (Option Int)} {t : Tr} {j : Nat} {s : Int} {ks : List Ch} (h1 : t.sides[j]? = some s) (h2 : (t.kids 0 0)[j]? = some ks) : (vals3 es t)[j]? = some (w3 j s (ks.map (atC (lo es) fun m => (vals3 es t).getD m none))) := vals_at h1 h2
theorem lo_pl {es : List (Option Int)} {l : Nat} (h : l < es.length) : (es.map plD)[l]? = some (plD (lo es l)) := by rw [List.getElem?_map, lo_at h]; rfl
theorem r_winners_with (T : Txt w K mg A) : ∀ ds M Q E, sp_winners_with A.Duel ds M Q E → t_winners_with K A (ends Q E) (dstart N_winners_with ds) M := by
  rintro ds M Q E ⟨a, t, X, es, rfl, hX, d, g, hl, k⟩
  have hn := g.2.2.1
  have sl : sizeLine = 16777216 := sizeLine_eq
  have lsd : t.sides.length = t.nn := rfl
  unfold t_winners_with N_winners_with
  simp only [dstart, List.map, List.length_cons, List.length_nil, List.replicate, List.cons_append, List.nil_append]
  refine seq_split (fun τ M' => ∃ p, M p = none ∧ M' = put M p (.lst (t.sides.map fun _ => .non)) ∧ τ = [some (.ref a), some X, some (.ref p), none, none, none, none, none]) ?_ ?_
  rotate_left
  · intro nx hnx
    have d' := d
    unfold DuelAt at d'
    walk_at "dl"
    simp only [d', duelF_sides, intsD, itemsOf, keepOf]
    refine ⟨T.d_Duel_sides, fun p hp => ?_⟩
    refine dCL_map (xs := t.sides) D.int (fun _ => D.non) rfl (by omega) (fun _ => trivial) (fun o ho ys k' h => ?_) (hnx _ _ ⟨p, hp, rfl, rfl⟩)
    walk_at "dl"
    exact h
  rintro τ M1 ⟨p, hp, rfl, rfl⟩
  have sqX : ∀ M', Sub M M' → sq X M' = some (es.map plD) := fun M' s => sq_sub s hX
  refine seq_split (fun τ M' => Sub M M' ∧ M' p = some (.lst ((vals3 es t).map plD)) ∧ ∃ o3 o4 o5 o6 o7, τ = [some (.ref a), some X, some (.ref p), o3, o4, o5, o6, o7]) ?_ ?_
  rotate_left
  · intro nx hnx
    have pa : a ≠ p := by rintro rfl; rw [d] at hp; cases hp
    have d' : (put M p (.lst (t.sides.map fun _ => D.non))) a = some (.ins A.Duel (duelF t)) := by rw [put_ne pa]; exact d
    walk_at "dl"
    simp only [d', duelF_sides, intsD, lenG_tup, List.length_map, lsd]
    refine ⟨T.d_Duel_sides, trivial, ⟨by omega, by omega, by omega, by omega⟩, by omega, ?_⟩
    have e0 : ((((t.nn : Nat) : Int) - 1) - -1).toNat = t.nn := by omega
    rw [e0]
    refine dLoop_inv (fun i τ M' => Sub M M' ∧ (∃ L, M' p = some (.lst L) ∧ Filled plD (vals3 es t) (t.nn - i) L ∧ ∀ m, m < t.nn - i → L[m]? = some .non) ∧ ∃ o3 o4 o5 o6 o7, τ = [some (.ref a), some X, some (.ref p), o3, o4, o5, o6, o7]) (fun _ _ _ _ _ => trivial) ?_ ?_ ⟨Sub.refl.put hp, ⟨_, put_same, by rw [Nat.sub_zero, ← vals3_len (es := es)]; exact fill_start (by rw [vals3_len, List.length_map]; rfl), fun m hm => by rw [List.getElem?_map, List.getElem?_eq_getElem (show m < t.sides.length by omega)]; rfl⟩, none, none, none, none, none, rfl⟩
    · rintro i dd τ M' nxt hd ⟨s, ⟨L, hL, hf, hN⟩, o3, o4, o5, o6, o7, rfl⟩ hnx'
      obtain ⟨hi, rfl⟩ := rng_at hd
      obtain ⟨j, hj⟩ : ∃ j, t.nn - i = j + 1 := ⟨t.nn - i - 1, by omega⟩
      have hj' : ((t.nn : Nat) : Int) - 1 - ((i : Nat) : Int) = ((j : Nat) : Int) := by omega
      rw [hj] at hf hN
      obtain ⟨sd, ks, n1, n2, n3⟩ := node_at (t := t) (j := j) (by omega)
      have hw := vals3_at (es := es) n1 n2
      have d1 := s _ _ d
      have hks := kids_small t 0 0 g.1 ks (List.mem_of_getElem? n2)
      rw [hj']
      walk_at "dl"
      have i1 : (t.sides.map D.int)[j]? = some (.int sd) := by rw [List.getElem?_map, n1]; rfl
      have i2 : ((t.kids 0 0).map kidsD)[j]? = some (kidsD ks) := by rw [List.getElem?_map, n2]; rfl
      simp only [d1, duelF_sides, duelF_children, intsD, ixG_nat i1, ixG_nat i2, kidsD, itemsOf, keepOf]
      refine ⟨T.d_Duel_sides, T.d_Duel_children, fun q hq => ?_⟩
      have qp : p ≠ q := by rintro rfl; rw [hL] at hq; cases hq
      refine dCL_map (xs := ks) chD (fun c => plD (atC (lo es) (fun m => (vals3 es t).getD m none) c)) rfl (by omega) (fun _ => trivial) (fun c hc ys k' h => ?_) ?_
      · simp only [wipeD]
        walk_at "dl"
        refine ent (child_val (f := plD) (by rw [vals3_len]; exact n3 c hc) hf fun l hl2 => lo_pl (by omega)) ?_ ?_ h
        · exact sq_at (by rw [put_ne qp]; exact hL)
        · exact sqX _ (s.put hq)
      · have hq' : (put M' q (.lst (ks.map fun c => plD (atC (lo es) (fun m => (vals3 es t).getD m none) c)))) q = some (.lst ((ks.map (atC (lo es) fun m => (vals3 es t).getD m none)).map plD)) := by rw [put_same, List.map_map]; rfl
        have hL' : (put M' q (.lst (ks.map fun c => plD (atC (lo es) (fun m => (vals3 es t).getD m none) c)))) p = some (.lst L) := by rw [put_ne qp]; exact hL
        have lL := hf.1
        rw [vals3_len] at lL
        have ix : ixN L.length ((j : Nat) : Int) = some j := by
          rw [ixN_in (by omega) (by omega)]; simp
        have fin : ∀ (x : Option Int) τ', w3 j sd (ks.map (atC (lo es) fun m => (vals3 es t).getD m none)) = x → (∃ o3 o4 o5 o6 o7, τ' = [some (.ref a), some X, some (.ref p), o3, o4, o5, o6, o7]) → nxt τ' (put (put M' q (.lst (ks.map fun c => plD (atC (lo es) (fun m => (vals3 es t).getD m none) c)))) p (.lst (L.set j (plD x)))) := fun x τ' hx hτ => hnx' _ _ ⟨sub_set (s.put hq) hp, ⟨_, put_same, by rw [show t.nn - (i + 1) = j by omega]; rw [hx] at hw; exact fill_set hf hw, fun m hm => by rw [List.getElem?_set_ne (by omega)]; exact hN m (by omega)⟩, hτ⟩
        simp only [inG_pl hq', inG_plN hq', hL', ix]
        by_cases c : some sd ∈ ks.map (atC (lo es) fun m => (vals3 es t).getD m none)
        · simp only [c, decide_true, Bool.false_bne, if_true]
          exact fin (some sd) _ (w3_yes c) ⟨_, _, _, _, _, rfl⟩
        · by_cases c2 : none ∈ ks.map (atC (lo es) fun m => (vals3 es t).getD m none)
          · simp only [c, c2, decide_false, decide_true, Bool.false_bne, Bool.true_bne, Bool.false_eq_true, if_false, if_true, Bool.not_true]
            have e1 : L.set j .non = L := by
              apply List.ext_getElem?
              intro m
              by_cases q2 : j = m
              · subst q2
                rw [List.getElem?_set_self (by omega)]
                exact (hN j (by omega)).symm
              · rw [List.getElem?_set_ne q2]
            have := fin none [some (.ref a), some X, some (.ref p), some (.int (j : Nat)), some (.int sd), some (.ref q), o6, o7] (w3_none c c2) ⟨_, _, _, _, _, rfl⟩
            rw [show plD none = D.non from rfl, e1] at this
            rw [put_self hL'] at this
            exact this
          · simp only [c, c2, decide_false, Bool.false_bne, Bool.true_bne, Bool.false_eq_true, if_false, if_true, Bool.not_false]
            exact fin (some (1 - sd)) _ (w3_no c c2) ⟨_, _, _, _, _, rfl⟩
    · rintro τ M' ⟨s, ⟨L, hL, hf, _⟩, hτ⟩
      rw [len_rng, Nat.sub_self] at hf
      exact hnx _ _ ⟨s, by rw [hL, fill_all hf], hτ⟩
  rintro τ M2 ⟨s2, h2, o3, o4, o5, o6, o7, rfl⟩
  walk_at "dl"
  exact dropQ_of (k p hp) (put_sub s2 h2)
theorem root_ent3 {t : Tr} {es : List (Option Int)} (hl : es.length = t.nl) : valC (es.map plD) ((vals3 es t).map plD) (plD (ev3 es t)) (t.root 0 0) := by
  have h := root_in t 0 0
  rw [Nat.zero_add, Nat.zero_add] at h
  have := child_val (f := plD) (g := lo es) (d0 := none) (W := vals3 es t) (L := (vals3 es t).map plD) (E := es.map plD) (j := 0) (nl := t.nl) (by rw [vals3_len]; exact h) ⟨by simp, fun m w _ e => by rw [List.getElem?_map, e]; rfl⟩ fun l hl2 => lo_pl (by omega)
  rw [show atC (lo es) (fun m => (vals3 es t).getD m none) (t.root 0 0) = ev3 es t from root_vals] at this
  exact this
theorem full_pl {es : List Int} : (es.map some).map plD = es.map D.int := by rw [List.map_map]; rfl
theorem r_winner (T : Txt w K mg A) : ∀ ds M Q E, sp_winner A.Duel ds M Q E → t_winner K A (ends Q E) (dstart N_winner ds) M := by
  rintro ds M Q E ⟨a, t, rfl, d, g, k⟩
  unfold t_winner N_winner
  have d' := d
  unfold DuelAt at d'
  walk_at "dl"
  simp only [d', duelF_root, duelF_ends]
  have hl : (t.ends.map some).length = t.nl := by rw [List.length_map]; rfl
  have re := root_ent3 hl
  rw [ev3_full rfl, win_O, full_pl] at re
  refine ⟨T.d_Duel_root, T.d_Duel_ends, a, t, _, t.ends.map some, rfl, by rw [full_pl]; rfl, d, g, hl, fun p hp => ?_⟩
  have pa : a ≠ p := by rintro rfl; rw [d'] at hp; cases hp
  have d1 : (put M p (.lst ((vals3 (t.ends.map some) t).map plD))) a = some (.ins A.Duel (duelF t)) := by rw [put_ne pa]; exact d'
  simp only [d1, duelF_ends]
  exact ⟨T.d_Duel_ends, ent re (sq_at put_same) rfl (dropQ_of k (Sub.refl.put hp))⟩
end K44

set_option maxHeartbeats 4000000
namespace K44
open PySem L2 DL DU
local macro_rules | `(tactic| walk_at "dl") => `(tactic| simp only [dSeq, dIfS, dB, dTru, truD, dOp, dVar, dC, dAsg, dAug, dCB, dCons, dNil, dRet, dRetN, dName, dGSub, dNext, ends, exOf, dstart, slot, oI0, oI, dAnd, dOr, dNot, dAndV, dOrV, dNotV, dNeg, dSl, dNoP, dPart, dFld, dFldS, dRaise, dLst, dTup, dFor, dIter, dRng1, dRng2, dCall, dMake, dMeth, dIxO, dLc, dYes, dGTup, dGCons, dGNil, dDrop, dBreak, dBM, dDIn, dNever, dChain, dRngD, dZip, dRaiseI, dLstRg, dDGet, dDGet2, dDNew, dGSubD, dDStar,
  eqD_str, neD_str, eqD_int, neD_int, ixG_t0, ixG_t1, isiG_str, isi_int, isi_int_s, isi_int_t, isi_tup, isi_tup_s, isi_tup_i, isi_str_i, isi_str_t, lenG_tup, addD_int, mulD_int, intG, List.nil_append, bne_iff_ne, ofS_inj, Bool.false_bne, Bool.true_bne,
  List.map, List.length_cons, List.length_nil, List.cons_append, List.append_nil, List.replicate, List.set, List.getElem?_cons_zero, List.getElem?_cons_succ, Option.join_some, Option.bind_some, decide_eq_true_eq])
local macro_rules | `(tactic| walk_at "so") => `(tactic| first | omega | (simp; done) | (simp; omega))
variable {K : PySem.W.Frag} {A : Adr} {w : World} {mg : Str → Option Value}
theorem asc_of : ∀ {lot : List Int}, (∀ (j : Nat) (x y : Int), lot[j]? = some y → lot[j + 1]? = some x → y < x) → lot.Pairwise (· < ·)
  | [], _ => .nil
  | [a], _ => by simp
  | a :: b :: r, h => by
    have ih := asc_of (lot := b :: r) fun j x y h1 h2 => h (j + 1) x y (by simpa using h1) (by simpa using h2)
    have hab : a < b := h 0 b a (by simp) (by simp)
    refine List.pairwise_cons.mpr ⟨fun x hx => ?_, ih⟩
    rcases List.mem_cons.mp hx with rfl | hx
    · exact hab
    · exact Int.lt_trans hab ((List.pairwise_cons.mp ih).1 x hx)
def okAt2 (t : Tr) (lot : List Int) (j : Nat) : Prop := ∀ x, lot[j]? = some x → (0 ≤ x ∧ x < t.nl) ∧ ∀ (i : Nat) (y : Int), j = i + 1 → lot[i]? = some y → y < x
theorem okLot_of {t : Tr} {lot : List Int} (h : ∀ j, j < lot.length → okAt2 t lot j) : okLot t lot := by
  refine ⟨fun x hx => ?_, asc_of fun j x y h1 h2 => ?_⟩
  · obtain ⟨j, hj, rfl⟩ := List.getElem_of_mem hx
    exact (h j hj _ (List.getElem?_eq_getElem hj)).1
  · exact (h (j + 1) (List.getElem?_eq_some_iff.mp h2).1 x h2).2 j y rfl h1
theorem okAt_of {t : Tr} {lot : List Int} (h : okLot t lot) (j : Nat) : okAt2 t lot j := by
  refine fun x hx => ⟨h.1 x (List.mem_of_getElem? hx), fun i y e hy => ?_⟩
  subst e
  obtain ⟨h1, e1⟩ := List.getElem?_eq_some_iff.mp hy
  obtain ⟨h2, e2⟩ := List.getElem?_eq_some_iff.mp hx
  rw [← e1, ← e2]
  exact List.pairwise_iff_getElem.mp h.2 i (i + 1) h1 h2 (by omega)
theorem r_require_leaves (T : Txt w K mg A) : ∀ ds M Q E, sp_require_leaves A ds M Q E → t_require_leaves K A (ends Q E) (dstart N_require_leaves ds) M := by
  rintro ds M Q E ⟨a, t, lot, rfl, d, g, hl, k1, k2⟩
  have sl : sizeLine = 16777216 := sizeLine_eq
  have d' := d
  unfold DuelAt at d'
  unfold t_require_leaves N_require_leaves
  walk_at "dl"
  refine ⟨by walk_at "so", by walk_at "so", ?_⟩
  refine dLoop_inv (fun i τ M' => M = M' ∧ (∀ j, j < i → okAt2 t lot j) ∧ ∃ o2, τ = [some (.ref a), some (.tup (lot.map D.int)), o2]) (fun _ _ _ _ _ => trivial) ?_ ?_ ⟨rfl, fun j hj => by omega, none, rfl⟩
  · rintro i dd τ M' nxt hd ⟨rfl, ok, o2, rfl⟩ hnx
    obtain ⟨hi, rfl⟩ := rng_at hd
    have hi : i < lot.length := by simpa using hi
    have ex := List.getElem?_eq_getElem hi
    generalize lot[i] = x at ex
    have i1 : (lot.map D.int)[i]? = some (.int x) := by rw [List.getElem?_map, ex]; rfl
    have bad : ¬ okAt2 t lot i → dropE E ⟨.ref A.OutOfRange, none, []⟩ M := fun n => dropE_of (k2 fun h => n (okAt_of h i)) .refl
    have good' : okAt2 t lot i → nxt [some (.ref a), some (.tup (lot.map D.int)), some (.int (i : Nat))] M := fun h => hnx _ _ ⟨rfl, fun j hj => by
      by_cases c : j = i
      · subst c; exact h
      · exact ok j (by omega), _, rfl⟩
    walk_at "dl"
    simp only [ixG_nat i1, d', duelF_ends]
    have le : t.ends.length = t.nl := rfl
    by_cases c1 : 0 ≤ x
    · simp only [c1, decide_true, if_true, intsD, lenG_tup, List.length_map, le, T.d_Duel_ends, true_and]
      by_cases c2 : x < t.nl
      · simp only [c2, decide_true, Bool.not_true, Bool.false_eq_true, if_false]
        by_cases c3 : 0 < i
        · have c3' : (0 : Int) < ((i : Nat) : Int) := by omega
          obtain ⟨i', rfl⟩ : ∃ i', i = i' + 1 := ⟨i - 1, by omega⟩
          have e2 : (((i' + 1 : Nat) : Int) - 1) = ((i' : Nat) : Int) := by omega
          have ey := List.getElem?_eq_getElem (show i' < lot.length by omega)
          generalize lot[i'] = y at ey
          have i2 : (lot.map D.int)[i']? = some (.int y) := by rw [List.getElem?_map, ey]; rfl
          simp only [c3', decide_true, if_true, e2, ixG_nat i2]
          by_cases c4 : x ≤ y
          · simp only [c4, decide_true, if_true]
            exact bad fun h => by have := (h x ex).2 i' y rfl ey; omega
          · simp only [c4, decide_false, Bool.false_eq_true, if_false]
            refine good' fun z hz => ?_
            rw [ex] at hz; cases hz
            exact ⟨⟨c1, c2⟩, fun j u ej hu => by
              have : j = i' := by omega
              subst this; rw [ey] at hu; cases hu; omega⟩
        · have c3' : ¬ (0 : Int) < ((i : Nat) : Int) := by omega
          simp only [c3', decide_false, Bool.false_eq_true, if_false]
          refine good' fun z hz => ?_
          rw [ex] at hz; cases hz
          exact ⟨⟨c1, c2⟩, fun j u ej hu => by omega⟩
      · simp only [c2, decide_false, Bool.not_false, if_true]
        exact bad fun h => c2 (h x ex).1.2
    · simp only [c1, decide_false, Bool.false_eq_true, if_false, Bool.not_false, if_true]
      exact bad fun h => c1 (h x ex).1.1
  · rintro τ M' ⟨rfl, ok, o2, rfl⟩
    rw [len_rng] at ok
    exact dropQ_of (k1 (okLot_of fun j hj => ok j (by simpa using hj))) .refl
theorem r_certified_outcome (T : Txt w K mg A) : ∀ ds M Q E, sp_certified_outcome A ds M Q E → t_certified_outcome K A (ends Q E) (dstart N_certified_outcome ds) M := by
  rintro ds M Q E ⟨a, t, lot, rfl, d, g, hl, k1, k2⟩
  have sl : sizeLine = 16777216 := sizeLine_eq
  have d' := d
  unfold DuelAt at d'
  have le : t.ends.length = t.nl := rfl
  have hn := g.2.2.2
  unfold t_certified_outcome N_certified_outcome
  simp only [dstart, List.map, List.length_cons, List.length_nil, List.replicate, List.cons_append, List.nil_append]
  refine seq_split (fun τ M' => M = M' ∧ okLot t lot ∧ τ = [some (.ref a), some (.tup (lot.map D.int)), none, none, none]) ?_ ?_
  rotate_left
  · intro nx hnx
    walk_at "dl"
    exact ⟨a, t, lot, rfl, d, g, hl, fun h => hnx _ _ ⟨rfl, h, rfl⟩, fun h => dropE_of (k2 h) .refl⟩
  rintro τ M1 ⟨rfl, ok, rfl⟩
  have k3 := k1 ok
  refine seq_split (fun τ M' => ∃ p, M p = none ∧ M' = put M p (.lst (t.ends.map fun _ => .non)) ∧ τ = [some (.ref a), some (.tup (lot.map D.int)), some (.ref p), none, none]) ?_ ?_
  rotate_left
  · intro nx hnx
    walk_at "dl"
    simp only [d', duelF_ends, intsD, itemsOf, keepOf]
    refine ⟨T.d_Duel_ends, fun p hp => ?_⟩
    refine dCL_map (xs := t.ends) D.int (fun _ => D.non) rfl (by omega) (fun _ => trivial) (fun o ho ys k' h => ?_) (hnx _ _ ⟨p, hp, rfl, rfl⟩)
    walk_at "dl"
    exact h
  rintro τ M1 ⟨p, hp, rfl, rfl⟩
  have pa : a ≠ p := by rintro rfl; rw [d] at hp; cases hp
  let es : Nat → List (Option Int) := fun i => (List.range t.nl).map fun l => if ((l : Nat) : Int) ∈ lot.take i then some (lv t.ends l) else none
  refine seq_split (fun τ M' => M' = put M p (.lst ((es lot.length).map plD)) ∧ ∃ o3, τ = [some (.ref a), some (.tup (lot.map D.int)), some (.ref p), o3, none]) ?_ ?_
  rotate_left
  · intro nx hnx
    walk_at "dl"
    simp only [itemsOf, keepOf]
    refine dLoop_inv (fun i τ M' => M' = put M p (.lst ((es i).map plD)) ∧ ∃ o3, τ = [some (.ref a), some (.tup (lot.map D.int)), some (.ref p), o3, none]) (fun _ _ _ _ _ => trivial) ?_ ?_ ⟨?_, none, rfl⟩
    · rintro i dd τ M' nxt hd ⟨rfl, o3, rfl⟩ hnx'
      obtain ⟨hi, rfl⟩ := map_at hd
      have ex := getD_of hi
      generalize lot.getD i 0 = x at ex
      obtain ⟨x0, x1⟩ := ok.1 x (List.mem_of_getElem? ex)
      obtain ⟨n, rfl⟩ : ∃ n : Nat, x = ((n : Nat) : Int) := ⟨x.toNat, by omega⟩
      have hn2 : n < t.nl := by omega
      have d1 : ∀ u, (put M p u) a = some (.ins A.Duel (duelF t)) := fun u => by rw [put_ne pa]; exact d'
      walk_at "dl"
      have i1 : (t.ends.map D.int)[n]? = some (.int (lv t.ends n)) := lv_at hn2
      have ix : ixN ((es i).map plD).length ((n : Nat) : Int) = some n := by rw [ixN_in (by omega) (by simp [es]; omega)]; simp
      simp only [d1, duelF_ends, intsD, ixG_nat i1, put_same, ix, put_put]
      refine ⟨T.d_Duel_ends, hnx' _ _ ⟨?_, _, rfl⟩⟩
      congr 2
      apply List.ext_getElem?
      intro m
      have lm : ∀ i, (es i).length = t.nl := fun i => by simp [es]
      have em : ∀ i m, m < t.nl → ((es i).map plD)[m]? = some (plD (if ((m : Nat) : Int) ∈ lot.take i then some (lv t.ends m) else none)) := fun i m hm => by
        simp only [es, List.getElem?_map, List.getElem?_range hm, Option.map_some]
      have tk : lot.take (i + 1) = lot.take i ++ [((n : Nat) : Int)] := by rw [List.take_add_one, ex]; rfl
      by_cases c : m < t.nl
      · by_cases q : n = m
        · subst q
          rw [List.getElem?_set_self (by simp [lm]; exact hn2), em _ _ c, tk]
          simp [plD]
        · rw [List.getElem?_set_ne q, em _ _ c, em _ _ c, tk]
          have : ¬ ((m : Nat) : Int) = ((n : Nat) : Int) := by omega
          simp [this]
      · rw [List.getElem?_eq_none (by simp [lm]; omega), List.getElem?_eq_none (by simp [lm]; omega)]
    · rintro τ M' ⟨rfl, hτ⟩
      rw [List.length_map]
      exact hnx _ _ ⟨rfl, hτ⟩
    · congr 2
      simp only [es, List.take_zero, List.not_mem_nil, if_false, List.map_map]
      apply List.ext_getElem?
      intro m
      by_cases c : m < t.nl
      · rw [List.getElem?_map, List.getElem?_map, List.getElem?_range c, List.getElem?_eq_getElem (show m < t.ends.length from c)]; rfl
      · rw [List.getElem?_eq_none (by simp [le]; omega), List.getElem?_eq_none (by simp; omega)]
  rintro τ M2 ⟨rfl, o3, rfl⟩
  have d1 : ∀ u, (put M p u) a = some (.ins A.Duel (duelF t)) := fun u => by rw [put_ne pa]; exact d'
  have lE : (es lot.length).length = t.nl := by simp [es]
  have ev : ev3 (es lot.length) t = certO t lot := by
    rw [← certW_O]
    unfold ev3 certW
    refine evalT_cg t 0 0 fun l _ hl2 => ?_
    unfold lo
    rw [List.getD_eq_getElem?_getD]
    simp only [es, List.getElem?_map, List.getElem?_range (show l < t.nl by omega), Option.map_some, Option.getD_some, List.take_length, inLot, decide_eq_true_eq]
  walk_at "dl"
  simp only [d1, duelF_root, T.d_Duel_root, true_and]
  refine ⟨a, t, _, es lot.length, rfl, sq_at put_same, by unfold DuelAt; exact d1 _, g, lE, fun q hq => ?_⟩
  have qp : p ≠ q := by rintro rfl; rw [put_same] at hq; cases hq
  have hq0 : M q = none := by rwa [put_ne qp.symm] at hq
  have re := root_ent3 lE
  rw [ev] at re
  exact ent re (sq_at put_same) (sq_at (by rw [put_ne qp]; exact put_same)) (dropQ_of k3 ((Sub.refl.put hp).put hq))
end K44

set_option maxHeartbeats 4000000
namespace K44
open PySem L2 DL DU
local macro_rules | `(tactic| walk_at "dl") => `(tactic| simp only [dSeq, dIfS, dB, dTru, truD, dOp, dVar, dC, dAsg, dAug, dCB, dCons, dNil, dRet, dRetN, dName, dGSub, dNext, ends, exOf, dstart, slot, oI0, oI, dAnd, dOr, dNot, dAndV, dOrV, dNotV, dNeg, dSl, dNoP, dPart, dFld, dFldS, dRaise, dLst, dTup, dFor, dIter, dRng1, dRng2, dCall, dMake, dMeth, dIxO, dLc, dYes, dGTup, dGCons, dGNil, dDrop, dBreak, dBM, dDIn, dNever, dChain, dRngD, dZip, dRaiseI, dLstRg, dDGet, dDGet2, dDNew, dGSubD, dDStar,
  eqD_str, neD_str, eqD_int, neD_int, ixG_t0, ixG_t1, isiG_str, isi_int, isi_int_s, isi_int_t, isi_tup, isi_tup_s, isi_tup_i, isi_str_i, isi_str_t, lenG_tup, addD_int, mulD_int, intG, List.nil_append, bne_iff_ne, ofS_inj, Bool.false_bne, Bool.true_bne,
  List.map, List.length_cons, List.length_nil, List.cons_append, List.append_nil, List.replicate, List.set, List.getElem?_cons_zero, List.getElem?_cons_succ, Option.join_some, Option.bind_some, decide_eq_true_eq])
local macro_rules | `(tactic| walk_at "so") => `(tactic| first | omega | (simp; done) | (simp; omega))
variable {K : PySem.W.Frag} {A : Adr} {w : World} {mg : Str → Option Value}
set_option maxHeartbeats 2000000
theorem slot_set {τ : Sl} {i : Nat} {d : D} (h : i < τ.length) : slot (τ.set i (some d)) i = some d := by unfold slot; rw [List.getElem?_set_self h]; rfl
theorem dCL_copy {α : Type} {j : Nat} {kp : Mp → Prop} {p : Addr} {τ : Sl} {F : Mp → Prop} {M : Mp} {h : α → D} (hj : j < τ.length) (hk : ∀ xs, kp (put M p (.lst xs))) : ∀ (c : List α) (acc : List D), acc.length + c.length ≤ 16000000 → F (put M p (.lst (acc ++ c.map h))) → dCL (fun d τ => τ.set j (some d)) dYes (dVar j) kp p τ F (c.map h) (put M p (.lst acc))
  | [], acc, hl, f => ⟨hk _, by simpa using f⟩
  | x :: c, acc, hl, f => by
    have sl : sizeLine = 16777216 := sizeLine_eq
    refine ⟨hk _, ?_⟩
    simp only [dYes, if_true, dVar, slot_set hj, put_same, put_put]
    simp only [List.length_cons] at hl
    exact ⟨by omega, dCL_copy hj hk c _ (by simp; omega) (by simpa using f)⟩
theorem dCL2_flat {α : Type} {i j : Nat} {p : Addr} {τ : Sl} {F : Mp → Prop} {M : Mp} {h : α → D} {kp : Mp → Prop} (hi : i < τ.length) (hj : j < τ.length) (hk : ∀ xs, kp (put M p (.lst xs))) : ∀ (vs : List (List α)) (acc : List D), acc.length + vs.flatten.length ≤ 16000000 → F (put M p (.lst (acc ++ vs.flatten.map h))) →
    dCL2 (fun d τ => τ.set i (some d)) dYes (dIter (dVar i)) (fun d τ => τ.set j (some d)) dYes (dVar j) [j] kp p τ F (vs.map fun c => D.tup (c.map h)) (put M p (.lst acc))
  | [], acc, hl, f => ⟨hk _, by simpa using f⟩
  | c :: vs, acc, hl, f => by
    rw [List.flatten_cons, List.length_append] at hl
    refine ⟨hk _, ?_⟩
    simp only [dYes, if_true, dIter, dVar, slot_set hi, itemsOf]
    refine dCL_copy (by rw [wipeD_length, List.length_set]; exact hj) (fun _ => trivial) c acc (by omega) ?_
    exact dCL2_flat hi hj hk vs _ (by rw [List.length_append, List.length_map]; omega) (by simpa [List.map_append] using f)
def gF (t : Tr) (l : Nat) : Ct := (lv t.ends l, [l])
def cvals (t : Tr) : List Ct := valsT frule (gF t) t 0 0
theorem cvals_len {t : Tr} : (cvals t).length = t.nn := vals_len frule (gF t) t 0 0
theorem cvals_at {t : Tr} {j : Nat} {s : Int} {ks : List Ch} (h1 : t.sides[j]? = some s) (h2 : (t.kids 0 0)[j]? = some ks) : (cvals t)[j]? = some (frule j s (ks.map (atC (gF t) fun m => (cvals t).getD m (0, [])))) := vals_at h1 h2
theorem cvals_root {t : Tr} : atC (gF t) (fun m => (cvals t).getD m (0, [])) (t.root 0 0) = cO t 0 := by
  rw [show atC (gF t) (fun m => (cvals t).getD m (0, [])) (t.root 0 0) = evalT frule (gF t) t 0 0 from root_vals]
  exact evalO_T0 (g := fun l o => ((o, [l]) : Ct)) noN_frule
theorem cvals_win {t : Tr} : (cvals t).map (·.1) = wins t.ends t := by
  unfold cvals wins
  exact (vals_hom (f := frule) (f' := wrule) (g := gF t) (fun p : Ct => p.1) (fun n s vs => frule_fst) t 0 0).symm
theorem wget {t : Tr} {m : Nat} : (wins t.ends t).getD m 0 = ((cvals t).getD m (0, [])).1 := by
  rw [← cvals_win, List.getD_eq_getElem?_getD, List.getD_eq_getElem?_getD, List.getElem?_map]
  cases (cvals t)[m]? <;> rfl
theorem atC_fst {t : Tr} {c : Ch} : atC (lv t.ends) (fun m => (wins t.ends t).getD m 0) c = (atC (gF t) (fun m => (cvals t).getD m (0, [])) c).1 := by
  cases c with
  | leaf l => rfl
  | node n => exact wget
theorem lots_filter {s : Int} : ∀ {vs : List Ct}, ((vs.map fun p => if p.1 = s then some p.2 else none).filterMap id) = lotsOf s vs
  | [] => rfl
  | p :: vs => by
    rw [List.map_cons, lotsOf_cons]
    by_cases c : p.1 = s
    · simp only [c, if_true, List.filterMap_cons, id]; rw [lots_filter]
    · simp only [c, if_false, List.filterMap_cons, id]; rw [lots_filter]
theorem pairs_map {α : Type} {f g : α → D} : ∀ {vs : List α}, pairsD (vs.map f) (vs.map g) = vs.map fun a => .tup [f a, g a]
  | [] => rfl
  | a :: vs => by simp [pairsD, pairs_map (vs := vs)]
theorem asc_len : ∀ {c : List Nat} {l n : Nat}, c.Pairwise (· < ·) → (∀ x, x ∈ c → l ≤ x ∧ x < l + n) → c.length ≤ n
  | [], l, n, _, _ => Nat.zero_le _
  | a :: r, l, n, h, hx => by
    obtain ⟨h1, h2⟩ := List.pairwise_cons.mp h
    have ha := hx a (by simp)
    have := asc_len (l := a + 1) (n := l + n - (a + 1)) h2 fun x hxr => by
      have := h1 x hxr
      have := hx x (List.mem_cons_of_mem _ hxr)
      omega
    rw [List.length_cons]; omega
theorem cert_len {t : Tr} {l : Nat} : (cO t l).2.length ≤ t.nl := asc_len (cO_asc _ t l (Nat.le_refl _)) (cO_in _ t l (Nat.le_refl _))
end K44

set_option maxHeartbeats 4000000
namespace K44
open PySem L2 DL DU
local macro_rules | `(tactic| walk_at "dl") => `(tactic| simp only [dSeq, dIfS, dB, dTru, truD, dOp, dVar, dC, dAsg, dAug, dCB, dCons, dNil, dRet, dRetN, dName, dGSub, dNext, ends, exOf, dstart, slot, oI0, oI, dAnd, dOr, dNot, dAndV, dOrV, dNotV, dNeg, dSl, dNoP, dPart, dFld, dFldS, dRaise, dLst, dTup, dFor, dIter, dRng1, dRng2, dCall, dMake, dMeth, dIxO, dLc, dYes, dGTup, dGCons, dGNil, dDrop, dBreak, dBM, dDIn, dNever, dChain, dRngD, dZip, dRaiseI, dLstRg, dDGet, dDGet2, dDNew, dGSubD, dDStar,
  eqD_str, neD_str, eqD_int, neD_int, ixG_t0, ixG_t1, isiG_str, isi_int, isi_int_s, isi_int_t, isi_tup, isi_tup_s, isi_tup_i, isi_str_i, isi_str_t, lenG_tup, addD_int, mulD_int, intG, List.nil_append, bne_iff_ne, ofS_inj, Bool.false_bne, Bool.true_bne,
  List.map, List.length_cons, List.length_nil, List.cons_append, List.append_nil, List.replicate, List.set, List.getElem?_cons_zero, List.getElem?_cons_succ, Option.join_some, Option.bind_some, decide_eq_true_eq])
local macro_rules | `(tactic| walk_at "so") => `(tactic| first | omega | (simp; done) | (simp; omega))
variable {K : PySem.W.Frag} {A : Adr} {w : World} {mg : Str → Option Value}
set_option maxHeartbeats 2000000
theorem le_sum : ∀ {l : List Nat} {x : Nat}, x ∈ l → x ≤ l.sum
  | a :: l, x, h => by
    rw [List.sum_cons]
    rcases List.mem_cons.mp h with rfl | h
    · omega
    · have := le_sum h; omega
section
variable {g : Nat → Ct} (hg : ∀ l, (g l).2.length ≤ 1)
include hg
mutual
theorem ev_len : ∀ (t : Tr) (n l : Nat), (evalT frule g t n l).2.length ≤ t.nl
  | .lf _, n, l => by rw [evalT, nl_lf]; exact hg l
  | .nd s ts, n, l => by
    have h := evL_len ts (n + 1) l
    rw [evalT, nl_nd]
    rcases frule_cases n s (evalL frule g ts (n + 1) l) with ⟨c, hc, e, _⟩ | ⟨_, e, _⟩
    · rw [e]
      refine Nat.le_trans ?_ h
      have : c ∈ (evalL frule g ts (n + 1) l).map (·.2) := List.mem_map.mpr ⟨_, hc, rfl⟩
      rw [List.length_flatten]
      exact le_sum (List.mem_map.mpr ⟨_, this, rfl⟩)
    · rw [e]; exact h
theorem evL_len : ∀ (ts : List Tr) (n l : Nat), ((evalL frule g ts n l).map (·.2)).flatten.length ≤ nlL ts
  | [], n, l => by simp [evalL]
  | t :: ts, n, l => by
    have h1 := ev_len t n l
    have h2 := evL_len ts (n + t.nn) (l + t.nl)
    rw [evalL, List.map_cons, List.flatten_cons, List.length_append, nlL_cons]; omega
end
mutual
theorem vals_ln : ∀ (t : Tr) (n l : Nat), ∀ x, x ∈ valsT frule g t n l → x.2.length ≤ t.nl
  | .lf _, n, l, x, hx => by simp [valsT] at hx
  | .nd s ts, n, l, x, hx => by
    rw [valsT] at hx
    rcases List.mem_cons.mp hx with rfl | hx
    · have := ev_len hg (.nd s ts) n l
      rw [evalT] at this; exact this
    · rw [nl_nd]; exact valsL_ln ts _ _ x hx
theorem valsL_ln : ∀ (ts : List Tr) (n l : Nat), ∀ x, x ∈ valsL frule g ts n l → x.2.length ≤ nlL ts
  | [], n, l, x, hx => by simp [valsL] at hx
  | t :: ts, n, l, x, hx => by
    rw [valsL] at hx
    rw [nlL_cons]
    rcases List.mem_append.mp hx with hx | hx
    · have := vals_ln t _ _ x hx; omega
    · have := valsL_ln ts _ _ x hx; omega
end
end
theorem r_least_certificate (T : Txt w K mg A) : ∀ ds M Q E, sp_least_certificate A.Duel ds M Q E → t_least_certificate K A (ends Q E) (dstart N_least_certificate ds) M := by
  rintro ds M Q E ⟨a, t, rfl, d, g, k⟩
  have sl : sizeLine = 16777216 := sizeLine_eq
  have d' := d
  unfold DuelAt at d'
  have le : t.ends.length = t.nl := rfl
  have lsd : t.sides.length = t.nn := rfl
  have hn := g.2.2.1
  have hnl := g.2.2.2
  unfold t_least_certificate N_least_certificate
  simp only [dstart, List.map, List.length_cons, List.length_nil, List.replicate, List.cons_append, List.nil_append]
  refine seq_split (fun τ M' => ∃ p, M p = none ∧ M' = put M p (.lst ((wins t.ends t).map D.int)) ∧ τ = [some (.ref a), some (.ref p), none, none, none, none, none, none, none, none, none, none, none]) ?_ ?_
  rotate_left
  · intro nx hnx
    walk_at "dl"
    simp only [d', duelF_ends]
    refine ⟨T.d_Duel_ends, a, t, _, t.ends.map some, rfl, by rw [full_pl]; rfl, d, g, by rw [List.length_map]; rfl, fun p hp => ?_⟩
    rw [vals3_full rfl, full_pl]
    exact hnx _ _ ⟨p, hp, rfl, rfl⟩
  rintro τ M1 ⟨p, hp, rfl, rfl⟩
  have pa : a ≠ p := by rintro rfl; rw [d] at hp; cases hp
  refine seq_split (fun τ M' => ∃ q, q ≠ p ∧ M q = none ∧ M' = put (put M p (.lst ((wins t.ends t).map D.int))) q (.lst ((List.range t.nl).map fun l => lotD [l])) ∧ τ = [some (.ref a), some (.ref p), some (.ref q), none, none, none, none, none, none, none, none, none, none]) ?_ ?_
  rotate_left
  · intro nx hnx
    have d1 : (put M p (.lst ((wins t.ends t).map D.int))) a = some (.ins A.Duel (duelF t)) := by rw [put_ne pa]; exact d'
    walk_at "dl"
    simp only [d1, duelF_ends, intsD, lenG_tup, List.length_map, le]
    refine ⟨T.d_Duel_ends, by walk_at "so", by walk_at "so", fun q hq => ?_⟩
    have qp : q ≠ p := by rintro rfl; rw [put_same] at hq; cases hq
    have hq0 : M q = none := by rwa [put_ne qp] at hq
    refine dCL_map (xs := List.range t.nl) (fun l => D.int ((l : Nat) : Int)) (fun l => lotD [l]) (by simp) (by simp; omega) (fun _ => trivial) (fun o ho ys k' h => ?_) (hnx _ _ ⟨q, qp, hq0, rfl, rfl⟩)
    simp only [wipeD]
    walk_at "dl"
    exact ⟨by omega, h⟩
  rintro τ M2 ⟨q, qp, hq, rfl, rfl⟩
  have qa : a ≠ q := by rintro rfl; rw [d] at hq; cases hq
  generalize hM2 : put (put M p (.lst ((wins t.ends t).map D.int))) q (.lst ((List.range t.nl).map fun l => lotD [l])) = M2
  have s2 : Sub M M2 := by subst hM2; exact (Sub.refl.put hp).put (by rw [put_ne qp]; exact hq)
  have m2p : M2 p = some (.lst ((wins t.ends t).map D.int)) := by subst hM2; rw [put_ne qp.symm]; exact put_same
  have m2q : M2 q = some (.lst ((List.range t.nl).map fun l => lotD [l])) := by subst hM2; exact put_same
  clear hM2
  have d2 := s2 _ _ d'
  refine seq_split (fun τ M' => ∃ r, M2 r = none ∧ M' = put M2 r (.lst (t.sides.map fun _ => D.tup [])) ∧ τ = [some (.ref a), some (.ref p), some (.ref q), some (.ref r), none, none, none, none, none, none, none, none, none]) ?_ ?_
  rotate_left
  · intro nx hnx
    walk_at "dl"
    simp only [d2, duelF_sides, intsD, itemsOf, keepOf]
    refine ⟨T.d_Duel_sides, fun r hr => ?_⟩
    refine dCL_map (xs := t.sides) D.int (fun _ => D.tup []) rfl (by omega) (fun _ => trivial) (fun o ho ys k' h => ?_) (hnx _ _ ⟨r, hr, rfl, rfl⟩)
    simp only [wipeD]
    walk_at "dl"
    exact ⟨by omega, h⟩
  rintro τ M3 ⟨r, hr, rfl, rfl⟩
  have sE : ∀ {M' : Mp}, Sub M2 M' → sq (.ref q) M' = some ((List.range t.nl).map fun l => lotD [l]) := fun s => sq_at (s _ _ m2q)
  refine seq_split (fun τ M' => Sub M2 M' ∧ M' r = some (.lst ((cvals t).map fun c => lotD c.2)) ∧ ∃ o4 o5 o6 o7 o8 o9 o10 o11 o12, τ = [some (.ref a), some (.ref p), some (.ref q), some (.ref r), o4, o5, o6, o7, o8, o9, o10, o11, o12]) ?_ ?_
  rotate_left
  · intro nx hnx
    have ra : a ≠ r := by rintro rfl; rw [d2] at hr; cases hr
    have d3 : (put M2 r (.lst (t.sides.map fun _ => D.tup []))) a = some (.ins A.Duel (duelF t)) := by rw [put_ne ra]; exact d2
    walk_at "dl"
    simp only [d3, duelF_sides, intsD, lenG_tup, List.length_map, lsd]
    refine ⟨T.d_Duel_sides, trivial, ⟨by omega, by omega, by omega, by omega⟩, by omega, ?_⟩
    have e0 : ((((t.nn : Nat) : Int) - 1) - -1).toNat = t.nn := by omega
    rw [e0]
    refine dLoop_inv (fun i τ M' => Sub M2 M' ∧ (∃ L, M' r = some (.lst L) ∧ Filled (fun c : Ct => lotD c.2) (cvals t) (t.nn - i) L) ∧ ∃ o4 o5 o6 o7 o8 o9 o10 o11 o12, τ = [some (.ref a), some (.ref p), some (.ref q), some (.ref r), o4, o5, o6, o7, o8, o9, o10, o11, o12]) (fun _ _ _ _ _ => trivial) ?_ ?_ ⟨Sub.refl.put hr, ⟨_, put_same, by rw [Nat.sub_zero, ← cvals_len]; exact fill_start (by rw [cvals_len, List.length_map]; rfl)⟩, none, none, none, none, none, none, none, none, none, rfl⟩
    · rintro i dd τ M' nxt hd ⟨s, ⟨L, hL, hf⟩, o4, o5, o6, o7, o8, o9, o10, o11, o12, rfl⟩ hnx'
      obtain ⟨hi, rfl⟩ := rng_at hd
      obtain ⟨j, hj⟩ : ∃ j, t.nn - i = j + 1 := ⟨t.nn - i - 1, by omega⟩
      have hj' : ((t.nn : Nat) : Int) - 1 - ((i : Nat) : Int) = ((j : Nat) : Int) := by omega
      rw [hj] at hf
      obtain ⟨sd, ks, n1, n2, n3⟩ := node_at (t := t) (j := j) (by omega)
      have hw := cvals_at n1 n2
      have d4 := s _ _ d2
      have hks := kids_small t 0 0 g.1 ks (List.mem_of_getElem? n2)
      have i1 : (t.sides.map D.int)[j]? = some (.int sd) := by rw [List.getElem?_map, n1]; rfl
      have i2 : ((t.kids 0 0).map kidsD)[j]? = some (kidsD ks) := by rw [List.getElem?_map, n2]; rfl
      let cv : Ch → Ct := atC (gF t) fun m => (cvals t).getD m (0, [])
      have hwin : (wins t.ends t)[j]? = some (frule j sd (ks.map cv)).1 := by rw [← cvals_win, List.getElem?_map, hw]; rfl
      have i3 : ((wins t.ends t).map D.int)[j]? = some (.int (frule j sd (ks.map cv)).1) := by rw [List.getElem?_map, hwin]; rfl
      refine seq_split (fun τ M'' => M' = M'' ∧ τ = [some (.ref a), some (.ref p), some (.ref q), some (.ref r), some (.int (j : Nat)), some (kidsD ks), o6, o7, o8, o9, o10, o11, o12]) ?_ ?_
      rotate_left
      · intro nx2 hnx2
        rw [hj']
        walk_at "dl"
        simp only [d4, duelF_children, ixG_nat i2]
        exact ⟨T.d_Duel_children, hnx2 _ _ ⟨rfl, rfl⟩⟩
      rintro τ M4 ⟨rfl, rfl⟩
      refine seq_split (fun τ M'' => ∃ u, u ≠ r ∧ M' u = none ∧ M'' = put M' u (.lst ((ks.map cv).map fun c => lotD c.2)) ∧ τ = [some (.ref a), some (.ref p), some (.ref q), some (.ref r), some (.int (j : Nat)), some (kidsD ks), some (.ref u), o7, o8, o9, o10, o11, o12]) ?_ ?_
      rotate_left
      · intro nx2 hnx2
        walk_at "dl"
        simp only [kidsD, itemsOf, keepOf]
        intro u hu
        have ur : u ≠ r := by rintro rfl; rw [hL] at hu; cases hu
        refine dCL_map (xs := ks) chD (fun c => lotD (cv c).2) rfl (by omega) (fun _ => trivial) (fun c hc ys k' h => ?_) (hnx2 _ _ ⟨u, ur, hu, by rw [List.map_map]; rfl, rfl⟩)
        simp only [wipeD]
        walk_at "dl"
        refine ent (child_val (f := fun c : Ct => lotD c.2) (g := gF t) (d0 := ((0, []) : Ct)) (W := cvals t) (E := (List.range t.nl).map fun l => lotD [l]) (nl := t.nl) (by rw [cvals_len]; exact n3 c hc) hf fun l hl2 => by rw [List.getElem?_map, List.getElem?_range hl2]; rfl) ?_ ?_ h
        · exact sq_at (by rw [put_ne ur.symm]; exact hL)
        · exact sE (s.trans (Sub.refl.put hu))
      rintro τ M5 ⟨u, ur, hu, rfl, rfl⟩
      have sU : Sub M' (put M' u (.lst ((ks.map cv).map fun c => lotD c.2))) := Sub.refl.put hu
      generalize hM5 : put M' u (.lst ((ks.map cv).map fun c => lotD c.2)) = M5 at sU
      have m5u : M5 u = some (.lst ((ks.map cv).map fun c => lotD c.2)) := by rw [← hM5]; exact put_same
      clear hM5
      have m5r := sU _ _ hL
      have m5p := sU _ _ (s _ _ m2p)
      have d5 := sU _ _ d4
      have lL := hf.1
      rw [cvals_len] at lL
      have ix : ixN L.length ((j : Nat) : Int) = some j := by
        rw [ixN_in (by omega) (by omega)]; simp
      have fin : ∀ (x : D) (M6 : Mp) τ', Sub M5 M6 → x = lotD (frule j sd (ks.map cv)).2 → (∃ o4 o5 o6 o7 o8 o9 o10 o11 o12, τ' = [some (.ref a), some (.ref p), some (.ref q), some (.ref r), o4, o5, o6, o7, o8, o9, o10, o11, o12]) → nxt τ' (put M6 r (.lst (L.set j x))) := fun x M6 τ' hs hx hτ => hnx' _ _ ⟨sub_set ((s.trans sU).trans hs) hr, ⟨_, put_same, by rw [show t.nn - (i + 1) = j by omega, hx]; exact fill_set (f := fun c : Ct => lotD c.2) hf hw⟩, hτ⟩
      rw [frule_fst] at i3
      by_cases hc : wrule j sd ((ks.map cv).map (·.1)) = sd
      · -- the least lot of those that win
        rw [hc] at i3
        refine ifS_of true (fun Q E h => ?_) ?_
        · walk_at "dl"
          simp only [ixg_at m5p i3, d5, duelF_sides, intsD, ixG_nat i1, eqD_int, decide_true]
          exact ⟨T.d_Duel_sides, h⟩
        rw [if_pos rfl]
        refine seq_split (fun τ M'' => ∃ v, v ≠ u ∧ M5 v = none ∧ M'' = put M5 v (.lst ((ks.map cv).map fun c => D.bl (decide (c.1 = sd)))) ∧ τ = [some (.ref a), some (.ref p), some (.ref q), some (.ref r), some (.int (j : Nat)), some (kidsD ks), some (.ref u), some (.ref v), o8, o9, o10, o11, o12]) ?_ ?_
        rotate_left
        · intro nx2 hnx2
          walk_at "dl"
          simp only [kidsD, itemsOf, keepOf]
          intro v hv
          have vu : v ≠ u := by rintro rfl; rw [m5u] at hv; cases hv
          refine dCL_map (xs := ks) chD (fun c => D.bl (decide ((cv c).1 = sd))) rfl (by omega) (fun _ => trivial) (fun c hc ys k' h => ?_) (hnx2 _ _ ⟨v, vu, hv, by rw [List.map_map]; rfl, rfl⟩)
          have vp : v ≠ p := by rintro rfl; rw [m5p] at hv; cases hv
          have va : a ≠ v := by rintro rfl; rw [d5] at hv; cases hv
          have d6 : (put M5 v (.lst ys)) a = some (.ins A.Duel (duelF t)) := by rw [put_ne va]; exact d5
          have m6p : (put M5 v (.lst ys)) p = some (.lst ((wins t.ends t).map D.int)) := by rw [put_ne vp.symm]; exact m5p
          simp only [wipeD]
          walk_at "dl"
          simp only [d6, duelF_ends]
          refine ⟨T.d_Duel_ends, ent (v := .int (cv c).1) ?_ (sq_at m6p) rfl ?_⟩
          · have in3 := n3 c hc
            have := child_val (f := D.int) (g := lv t.ends) (d0 := 0) (W := wins t.ends t) (L := (wins t.ends t).map D.int) (E := t.ends.map D.int) (j := 0) (nl := t.nl) (c := c) (by rw [wins_len]; cases c <;> simp only [inR] at in3 ⊢ <;> omega) ⟨by simp, fun m w _ e => by rw [List.getElem?_map, e]; rfl⟩ fun l hl2 => lv_at (by omega)
            rw [atC_fst] at this
            exact this
          · simp only [ixg_at m6p i3, eqD_int]
            exact h
        rintro τ M6 ⟨v, vu, hv, rfl, rfl⟩
        have sV : Sub M5 (put M5 v (.lst ((ks.map cv).map fun c => D.bl (decide (c.1 = sd))))) := Sub.refl.put hv
        generalize hM6 : put M5 v (.lst ((ks.map cv).map fun c => D.bl (decide (c.1 = sd)))) = M6 at sV
        have m6v : M6 v = some (.lst ((ks.map cv).map fun c => D.bl (decide (c.1 = sd)))) := by rw [← hM6]; exact put_same
        clear hM6
        have m6u := sV _ _ m5u
        walk_at "dl"
        simp only [dMinLen, dLcG, dZip, seqOf_lst m6u, seqOf_lst m6v]
        walk_at "dl"
        simp only [seqOf_lst m6u, seqOf_lst m6v, pairs_map]
        refine ⟨by simp; omega, fun d hd => ?_, fun x hx => ?_⟩
        · obtain ⟨c, _, rfl⟩ := List.mem_map.mp hd
          exact ⟨_, _, rfl⟩
        · have xu : x ≠ u := by rintro rfl; rw [m6u] at hx; cases hx
          have xv : x ≠ v := by rintro rfl; rw [m6v] at hx; cases hx
          have xr : x ≠ r := by rintro rfl; rw [sV _ _ m5r] at hx; cases hx
          refine dCL_pure (fun c : List Nat => lotD c) ((ks.map cv).map fun p => if p.1 = sd then some p.2 else none) (by simp) (by simp; omega) (fun ys => ⟨by rw [seqOf_lst (by rw [put_ne xu.symm]; exact m6u)], by rw [seqOf_lst (by rw [put_ne xv.symm]; exact m6v)]⟩) (fun n dn o ys k' k2 h1 h2 h3 h4 => ?_) ?_
          · rw [List.getElem?_map] at h1 h2
            cases hc2 : (ks.map cv)[n]? with
            | none => rw [hc2] at h1; cases h1
            | some cc =>
              rw [hc2] at h1 h2
              simp only [Option.map_some, Option.some.injEq] at h1 h2
              subst h1; subst h2
              simp only [wipeD, two]
              walk_at "dl"
              by_cases q2 : cc.1 = sd
              · simp only [q2, decide_true, if_true]
                exact h3 _ (by simp [q2])
              · simp only [q2, decide_false, Bool.false_eq_true, if_false]
                exact h4 (by simp [q2])
          · rw [lots_filter]
            simp only [seqOf_lst put_same]
            rcases frule_cases j sd (ks.map cv) with ⟨c, hcm, e, hb⟩ | ⟨hno, e, _⟩
            · refine ⟨?_, fun y hy => ?_, fun n y hy h1 h2 => ?_⟩
              · intro z
                have : c ∈ lotsOf sd (ks.map cv) := lotsOf_mem.mpr hcm
                rw [List.map_eq_nil_iff.mp z] at this; cases this
              · obtain ⟨c', _, rfl⟩ := List.mem_map.mp hy
                exact ⟨_, rfl⟩
              · rw [List.getElem?_map] at hy
                cases hc2 : (lotsOf sd (ks.map cv))[n]? with
                | none => rw [hc2] at hy; cases hy
                | some cc =>
                  rw [hc2] at hy
                  simp only [Option.map_some, Option.some.injEq] at hy
                  subst hy
                  have lt : ∀ c : List Nat, lenT (lotD c) = c.length := fun c => by simp [lenT, lotD]
                  have gm : ∀ {m : Nat} {y : List Nat}, (lotsOf sd (ks.map cv))[m]? = some y → ((lotsOf sd (ks.map cv)).map fun c => lotD c)[m]? = some (lotD y) := fun h => by rw [List.getElem?_map, h]; rfl
                  have e4 : best sd none (ks.map cv) = some cc := bestL_first hc2 (fun m y hm => by have := h1 m _ (gm hm); rw [lt, lt] at this; exact this) (fun m y hmn hm => by have := h2 m _ hmn (gm hm); rw [lt, lt] at this; exact this) (fun _ h => by cases h)
                  have e5 : c = cc := by rw [hb] at e4; cases e4; rfl
                  have m7 : (put M6 x (.lst ((lotsOf sd (ks.map cv)).map fun c => lotD c))) r = some (.lst L) := by rw [put_ne xr.symm]; exact sV _ _ m5r
                  simp only [m7, ix]
                  exact fin _ _ _ (sV.trans (Sub.refl.put hx)) (by rw [e, e5]) ⟨_, _, _, _, _, _, _, _, _, rfl⟩
            · have h5 := frule_fst (n := j) (s := sd) (vs := ks.map cv)
              rw [e, hc] at h5
              have hb := g.1
              have : bit sd := sides_bit hb sd (List.mem_of_getElem? n1)
              unfold bit at this
              omega
      · refine ifS_of false (fun Q E h => ?_) ?_
        · walk_at "dl"
          simp only [ixg_at m5p i3, d5, duelF_sides, intsD, ixG_nat i1, eqD_int, hc, decide_false]
          exact ⟨T.d_Duel_sides, h⟩
        rw [if_neg (by simp)]
        walk_at "dl"
        simp only [dLc2]
        walk_at "dl"
        simp only [itemsOf, keepOf, seqOf_lst m5u]
        intro x hx
        have xu : x ≠ u := by rintro rfl; rw [m5u] at hx; cases hx
        have xr : x ≠ r := by rintro rfl; rw [m5r] at hx; cases hx
        rcases frule_cases j sd (ks.map cv) with ⟨c, hcm, e, hb⟩ | ⟨hno, e, _⟩
        · exact absurd (by rw [← frule_fst, e]) hc
        have e2 : ((ks.map cv).map fun c => lotD c.2) = ((ks.map cv).map (·.2)).map fun c => D.tup (c.map fun n => D.int ((n : Nat) : Int)) := by simp only [List.map_map]; rfl
        rw [e2]
        have hlen : ((ks.map cv).map (·.2)).flatten.length ≤ t.nl := by
          have := vals_ln (g := gF t) (fun l => by simp [gF]) t 0 0 _ (List.mem_of_getElem? hw)
          rw [show ks.map (atC (gF t) fun m => (cvals t).getD m (0, [])) = ks.map cv from rfl, e] at this
          exact this
        refine dCL2_flat (by simp [wipeD]) (by simp [wipeD]) (fun ys => by rw [seqOf_lst (by rw [put_ne xu.symm]; exact m5u), ← e2]) _ [] (by simp only [List.length_nil]; omega) ?_
        simp only [List.nil_append, tup_put]
        have m7 : ∀ o, (put M5 x o) r = some (.lst L) := fun o => by rw [put_ne xr.symm]; exact m5r
        simp only [m7, ix]
        exact fin _ _ _ (Sub.refl.put hx) (by rw [e]; rfl) ⟨_, _, _, _, _, _, _, _, _, rfl⟩
    · rintro τ M' ⟨s, ⟨L, hL, hf⟩, hτ⟩
      rw [len_rng, Nat.sub_self] at hf
      exact hnx _ _ ⟨s, by rw [hL, fill_all hf], hτ⟩
  rintro τ M4 ⟨s4, h4, o4, o5, o6, o7, o8, o9, o10, o11, o12, rfl⟩
  have d4 := s4 _ _ d2
  walk_at "dl"
  simp only [d4, duelF_root]
  refine ⟨T.d_Duel_root, ent (v := lotD (cO t 0).2) ?_ (sq_at h4) (sE s4) (dropQ_of k (s2.trans s4))⟩
  have h := root_in t 0 0
  rw [Nat.zero_add, Nat.zero_add] at h
  have := child_val (f := fun c : Ct => lotD c.2) (g := gF t) (d0 := ((0, []) : Ct)) (W := cvals t) (L := (cvals t).map fun c => lotD c.2) (E := (List.range t.nl).map fun l => lotD [l]) (j := 0) (nl := t.nl) (by rw [cvals_len]; exact h) ⟨by simp, fun m w _ e => by rw [List.getElem?_map, e]; rfl⟩ fun l hl2 => by rw [List.getElem?_map, List.getElem?_range hl2]; rfl
  rw [cvals_root] at this
  exact this
end K44

set_option maxHeartbeats 4000000
namespace K44
open PySem L2 DL DU
local macro_rules | `(tactic| walk_at "dl") => `(tactic| simp only [dSeq, dIfS, dB, dTru, truD, dOp, dVar, dC, dAsg, dAug, dCB, dCons, dNil, dRet, dRetN, dName, dGSub, dNext, ends, exOf, dstart, slot, oI0, oI, dAnd, dOr, dNot, dAndV, dOrV, dNotV, dNeg, dSl, dNoP, dPart, dFld, dFldS, dRaise, dLst, dTup, dFor, dIter, dRng1, dRng2, dCall, dMake, dMeth, dIxO, dLc, dYes, dGTup, dGCons, dGNil, dDrop, dBreak, dBM, dDIn, dNever, dChain, dRngD, dZip, dRaiseI, dLstRg, dDGet, dDGet2, dDNew, dGSubD, dDStar,
  eqD_str, neD_str, eqD_int, neD_int, ixG_t0, ixG_t1, isiG_str, isi_int, isi_int_s, isi_int_t, isi_tup, isi_tup_s, isi_tup_i, isi_str_i, isi_str_t, lenG_tup, addD_int, mulD_int, intG, List.nil_append, bne_iff_ne, ofS_inj, Bool.false_bne, Bool.true_bne,
  List.map, List.length_cons, List.length_nil, List.cons_append, List.append_nil, List.replicate, List.set, List.getElem?_cons_zero, List.getElem?_cons_succ, Option.join_some, Option.bind_some, decide_eq_true_eq])
local macro_rules | `(tactic| walk_at "so") => `(tactic| first | omega | (simp; done) | (simp; omega))
variable {K : PySem.W.Frag} {A : Adr} {w : World} {mg : Str → Option Value}
set_option maxHeartbeats 2000000
def flipL (t : Tr) (i : Nat) : List Int := t.ends.set i (1 - lv t.ends i)
theorem flipL_len {t : Tr} {i : Nat} : (flipL t i).length = t.nl := by unfold flipL; rw [List.length_set]; rfl
theorem pivs_snoc {t : Tr} {i : Nat} : (List.range (i + 1)).filter (piv t) = (List.range i).filter (piv t) ++ if piv t i = true then [i] else [] := by
  rw [List.range_succ, List.filter_append]
  congr 1
  by_cases c : piv t i = true <;> simp [c]
theorem flip_piv {t : Tr} {i : Nat} (hi : i < t.nl) : decide (win (flipL t i) t = winO t) = !piv t i := by
  unfold flipL piv
  rw [piv_win hi]
  by_cases c : evalO wrule (flipAt i) t 0 = winO t <;> simp [c]
theorem nats_len {c : List Nat} : (c.map fun n => D.int ((n : Nat) : Int)).length = c.length := List.length_map ..
theorem filt_len {p : Nat → Bool} {n : Nat} : ((List.range n).filter p).length ≤ n := Nat.le_trans (List.length_filter_le _ _) (by simp)
theorem r_pivot_leaves (T : Txt w K mg A) : ∀ ds M Q E, sp_pivot_leaves A.Duel ds M Q E → t_pivot_leaves K A (ends Q E) (dstart N_pivot_leaves ds) M := by
  rintro ds M Q E ⟨a, t, rfl, d, g, k⟩
  have sl : sizeLine = 16777216 := sizeLine_eq
  have d' := d
  unfold DuelAt at d'
  have le : t.ends.length = t.nl := rfl
  have hnl := g.2.2.2
  unfold t_pivot_leaves N_pivot_leaves
  simp only [dstart, List.map, List.length_cons, List.length_nil, List.replicate, List.cons_append, List.nil_append]
  refine seq_split (fun τ M' => M = M' ∧ τ = [some (.ref a), some (.int (winO t)), none, none, none]) ?_ ?_
  rotate_left
  · intro nx hnx
    walk_at "dl"
    exact ⟨a, t, rfl, d, g, hnx _ _ ⟨rfl, rfl⟩⟩
  rintro τ M1 ⟨rfl, rfl⟩
  refine seq_split (fun τ M' => ∃ p, M p = none ∧ M' = put M p (.lst []) ∧ τ = [some (.ref a), some (.int (winO t)), some (.ref p), none, none]) ?_ ?_
  rotate_left
  · intro nx hnx
    walk_at "dl"
    exact ⟨by omega, fun p hp => hnx _ _ ⟨p, hp, rfl, rfl⟩⟩
  rintro τ M1 ⟨p, hp, rfl, rfl⟩
  refine seq_split (fun τ M' => Sub M M' ∧ M' p = some (.lst ((pivs t).map fun n => D.int ((n : Nat) : Int))) ∧ ∃ o3 o4, τ = [some (.ref a), some (.int (winO t)), some (.ref p), o3, o4]) ?_ ?_
  rotate_left
  · intro nx hnx
    have pa : a ≠ p := by rintro rfl; rw [d] at hp; cases hp
    have d1 : (put M p (.lst [])) a = some (.ins A.Duel (duelF t)) := by rw [put_ne pa]; exact d'
    walk_at "dl"
    simp only [d1, duelF_ends, intsD, lenG_tup, List.length_map, le]
    refine ⟨T.d_Duel_ends, by walk_at "so", by walk_at "so", ?_⟩
    rw [Int.toNat_natCast]
    refine dLoop_inv (fun i τ M' => Sub M M' ∧ M' p = some (.lst (((List.range i).filter (piv t)).map fun n => D.int ((n : Nat) : Int))) ∧ ∃ o3 o4, τ = [some (.ref a), some (.int (winO t)), some (.ref p), o3, o4]) (fun _ _ _ _ _ => trivial) ?_ ?_ ⟨Sub.refl.put hp, put_same, none, none, rfl⟩
    · rintro i dd τ M' nxt hd ⟨s, hL, o3, o4, rfl⟩ hnx'
      obtain ⟨hi, rfl⟩ := rng_at hd
      have d2 := s _ _ d'
      have i1 : (t.ends.map D.int)[i]? = some (.int (lv t.ends i)) := lv_at hi
      walk_at "dl"
      simp only [d2, duelF_ends, duelF_root, intsD, lstG]
      refine ⟨T.d_Duel_ends, fun q hq => ?_⟩
      have qp : q ≠ p := by rintro rfl; rw [hL] at hq; cases hq
      have qa : a ≠ q := by rintro rfl; rw [d2] at hq; cases hq
      have ix : ixN (t.ends.map D.int).length ((i : Nat) : Int) = some i := by rw [ixN_in (by omega) (by simp; omega)]; simp
      simp only [ixg_at put_same i1, put_same, ix, put_put]
      have e1 : (t.ends.map D.int).set i (.int (1 - lv t.ends i)) = (flipL t i).map D.int := by unfold flipL; rw [List.map_set]
      rw [e1]
      have sq' : Sub M' (put M' q (.lst ((flipL t i).map D.int))) := Sub.refl.put hq
      generalize hM2 : put M' q (.lst ((flipL t i).map D.int)) = M2 at sq'
      have m2q : M2 q = some (.lst ((flipL t i).map D.int)) := by rw [← hM2]; exact put_same
      clear hM2
      have d3 := sq' _ _ d2
      simp only [d3, duelF_root]
      have hl2 : ((flipL t i).map some).length = t.nl := by rw [List.length_map, flipL_len]
      have re := root_ent3 hl2
      rw [ev3_full flipL_len, full_pl] at re
      refine ⟨T.d_Duel_root, a, t, _, (flipL t i).map some, rfl, by rw [full_pl]; exact sq_at m2q, d3, g, hl2, fun r hr => ?_⟩
      have qr : q ≠ r := by rintro rfl; rw [m2q] at hr; cases hr
      have pr : p ≠ r := by rintro rfl; rw [sq' _ _ hL] at hr; cases hr
      refine ent re (sq_at put_same) (sq_at (by rw [put_ne qr]; exact m2q)) ?_
      simp only [plD, neD_int, flip_piv hi, Bool.not_not]
      have m3p : (put M2 r (.lst ((vals3 ((flipL t i).map some) t).map plD))) p = some (.lst (((List.range i).filter (piv t)).map fun n => D.int ((n : Nat) : Int))) := by rw [put_ne pr]; exact sq' _ _ hL
      by_cases c : piv t i = true
      · simp only [c, if_true, append_at m3p]
        refine ⟨by rw [metT_list m3p]; trivial, by have := filt_len (p := piv t) (n := i); rw [nats_len]; omega, hnx' _ _ ⟨sub_set ((s.trans sq').put hr) hp, ?_, _, _, rfl⟩⟩
        rw [put_same, pivs_snoc, if_pos c, List.map_append]; rfl
      · have c' : piv t i = false := by simpa using c
        simp only [c', Bool.false_eq_true, if_false]
        refine hnx' _ _ ⟨(s.trans sq').put hr, ?_, _, _, rfl⟩
        rw [m3p, pivs_snoc, if_neg c, List.append_nil]
    · rintro τ M' ⟨s, hL, hτ⟩
      rw [len_rng] at hL
      exact hnx _ _ ⟨s, hL, hτ⟩
  rintro τ M2 ⟨s2, h2, o3, o4, rfl⟩
  walk_at "dl"
  unfold tupG
  simp only [seqOf_lst h2]
  exact dropQ_of k s2
def kept (lot : List Int) (n i : Nat) : List Int := (List.range n).map fun l => if ((l : Nat) : Int) ∈ lot.take i then 1 else 0
theorem kept_len {lot : List Int} {n i : Nat} : (kept lot n i).length = n := by simp [kept]
theorem kept_at {lot : List Int} {n i l : Nat} (h : l < n) : (kept lot n i)[l]? = some (if ((l : Nat) : Int) ∈ lot.take i then 1 else 0) := by
  unfold kept; rw [List.getElem?_map, List.getElem?_range h]; rfl
theorem kept_set {lot : List Int} {n i x : Nat} (hx : lot[i]? = some ((x : Nat) : Int)) : (kept lot n i).set x 1 = kept lot n (i + 1) := by
  have tk : lot.take (i + 1) = lot.take i ++ [((x : Nat) : Int)] := by rw [List.take_add_one, hx]; rfl
  apply List.ext_getElem?
  intro m
  by_cases c : m < n
  · by_cases q : x = m
    · subst q
      rw [List.getElem?_set_self (by rw [kept_len]; exact c), kept_at c, tk]
      simp
    · rw [List.getElem?_set_ne q, kept_at c, kept_at c, tk]
      have : ¬ ((m : Nat) : Int) = ((x : Nat) : Int) := by omega
      simp [this]
  · rw [List.getElem?_eq_none (by simp [kept_len]; omega), List.getElem?_eq_none (by simp [kept_len]; omega)]
def otherL (es lot : List Int) (n : Nat) (r : Int) : List Int := (List.range n).map fun l => fillL es lot r l
theorem otherL_len {es lot : List Int} {n : Nat} {r : Int} : (otherL es lot n r).length = n := by simp [otherL]
theorem otherL_lv {es lot : List Int} {n l : Nat} {r : Int} (h : l < n) : lv (otherL es lot n r) l = fillL es lot r l := by
  unfold lv otherL
  rw [List.getD_eq_getElem?_getD, List.getElem?_map, List.getElem?_range h]; rfl
theorem otherL_win {es lot : List Int} {t : Tr} {r : Int} : win (otherL es lot t.nl r) t = evalT wrule (fillL es lot r) t 0 0 := by
  unfold win
  exact evalT_cg t 0 0 fun i _ hi => otherL_lv (by omega)
theorem fillL_bit {es lot : List Int} {r : Int} (he : ∀ o, o ∈ es → bit o) (hr : bit r) (l : Nat) : bit (fillL es lot r l) := by
  unfold fillL; split
  · exact lv_bit he l
  · exact hr
theorem root_entI {t : Tr} {es : List Int} (hl : es.length = t.nl) : valC (es.map D.int) ((wins es t).map D.int) (.int (win es t)) (t.root 0 0) := by
  have := root_ent3 (es := es.map some) (t := t) (by rw [List.length_map]; exact hl)
  rw [ev3_full hl, vals3_full hl, full_pl, full_pl] at this
  exact this
theorem cm01 {i j : Int} (h : i = 0 ∨ i = 1) (h2 : j = 0 ∨ j = 1) : CMulX i j := by
  rcases h with rfl | rfl <;> rcases h2 with rfl | rfl <;> exact mulx_ok (a := 2) (b := 2) (by decide) (by decide) (by decide)
theorem r_law_two : ∀ ds M Q E, sp_law_two ds M Q E → t_law_two K A (ends Q E) (dstart N_law_two ds) M := by
  rintro ds M Q E ⟨a, b, t, es, lot, L, rfl, na, hb, hL, g, hl, hbt, hlot, hin, k⟩
  have sl : sizeLine = 16777216 := sizeLine_eq
  have hnl := g.2.2.2
  unfold t_law_two N_law_two
  simp only [dstart, List.map, List.length_cons, List.length_nil, List.replicate, List.cons_append, List.nil_append]
  refine seq_split (fun τ M' => ∃ p, M p = none ∧ M' = put M p (.lst ((kept lot t.nl 0).map D.int)) ∧ τ = [some (.ref a), some (lchD (t.root 0 0)), some (.ref b), some L, some (.ref p), none, none, none, none]) ?_ ?_
  rotate_left
  · intro nx hnx
    walk_at "dl"
    simp only [itemsOf, keepOf, seqOf_lst hb]
    intro p hp
    have pb : b ≠ p := by rintro rfl; rw [hb] at hp; cases hp
    refine dCL_map (xs := es) D.int (fun _ => D.int 0) rfl (by omega) (fun ys => seqOf_lst (by rw [put_ne pb]; exact hb)) (fun o ho ys k' h => ?_) (hnx _ _ ⟨p, hp, ?_, rfl⟩)
    · walk_at "dl"
      exact h
    · congr 2
      apply List.ext_getElem?
      intro m
      by_cases c : m < t.nl
      · rw [List.getElem?_map, List.getElem?_map, kept_at c, List.getElem?_eq_getElem (show m < es.length by omega)]; simp
      · rw [List.getElem?_eq_none (by simp; omega), List.getElem?_eq_none (by simp [kept_len]; omega)]
  rintro τ M1 ⟨p, hp, rfl, rfl⟩
  have pb : b ≠ p := by rintro rfl; rw [hb] at hp; cases hp
  have sqL : ∀ {M'}, Sub M M' → sq L M' = some (lot.map D.int) := fun s => sq_sub s hL
  refine seq_split (fun τ M' => M' = put M p (.lst ((kept lot t.nl lot.length).map D.int)) ∧ ∃ o5, τ = [some (.ref a), some (lchD (t.root 0 0)), some (.ref b), some L, some (.ref p), o5, none, none, none]) ?_ ?_
  rotate_left
  · intro nx hnx
    walk_at "dl"
    have it : itemsOf L (put M p (.lst ((kept lot t.nl 0).map D.int))) = some (lot.map D.int) ∧ ∀ M', Sub M M' → keepOf L (lot.map D.int) M' := by
      have h1 := sqL (Sub.refl.put hp (o := .lst ((kept lot t.nl 0).map D.int)))
      cases L with
      | tup xs => exact ⟨h1, fun _ _ => trivial⟩
      | ref c => exact ⟨h1, fun M' s => sqL s⟩
      | non => simp [sq] at hL
      | bl b => simp [sq] at hL
      | int i => simp [sq] at hL
      | str z => simp [sq] at hL
      | ty n => simp [sq] at hL
    rw [it.1]
    refine dLoop_inv (fun i τ M' => M' = put M p (.lst ((kept lot t.nl i).map D.int)) ∧ ∃ o5, τ = [some (.ref a), some (lchD (t.root 0 0)), some (.ref b), some L, some (.ref p), o5, none, none, none]) (fun i τ M' _ h => it.2 _ (by rw [h.1]; exact Sub.refl.put hp)) ?_ ?_ ⟨rfl, none, rfl⟩
    · rintro i dd τ M' nxt hd ⟨rfl, o5, rfl⟩ hnx'
      obtain ⟨hi, rfl⟩ := map_at hd
      have ex := getD_of hi
      generalize lot.getD i 0 = x at ex
      obtain ⟨x0, x1⟩ := hin x (List.mem_of_getElem? ex)
      obtain ⟨n, rfl⟩ : ∃ n : Nat, x = ((n : Nat) : Int) := ⟨x.toNat, by omega⟩
      have ix : ixN ((kept lot t.nl i).map D.int).length ((n : Nat) : Int) = some n := by rw [ixN_in (by omega) (by simp [kept_len]; omega)]; simp
      walk_at "dl"
      simp only [put_same, ix, put_put]
      exact hnx' _ _ ⟨by rw [← kept_set ex, List.map_set], _, rfl⟩
    · rintro τ M' ⟨rfl, hτ⟩
      rw [List.length_map]
      exact hnx _ _ ⟨rfl, hτ⟩
  rintro τ M2 ⟨rfl, o5, rfl⟩
  have s1 : Sub M (put M p (.lst ((kept lot t.nl lot.length).map D.int))) := Sub.refl.put hp
  generalize hM2 : put M p (.lst ((kept lot t.nl lot.length).map D.int)) = M2 at s1
  have m2p : M2 p = some (.lst ((kept lot t.nl lot.length).map D.int)) := by rw [← hM2]; exact put_same
  clear hM2
  let W : Int → Int := fun r => evalT wrule (fillL es lot r) t 0 0
  refine seq_split (fun τ M' => ∃ q, M2 q = none ∧ M' = put M2 q (.lst []) ∧ τ = [some (.ref a), some (lchD (t.root 0 0)), some (.ref b), some L, some (.ref p), o5, some (.ref q), none, none]) ?_ ?_
  rotate_left
  · intro nx hnx
    walk_at "dl"
    exact ⟨by omega, fun q hq => hnx _ _ ⟨q, hq, rfl, rfl⟩⟩
  rintro τ M3 ⟨q, hq, rfl, rfl⟩
  refine seq_split (fun τ M' => Sub M2 M' ∧ M' q = some (.lst [.int (W 0), .int (W 1)]) ∧ ∃ o5 o7 o8, τ = [some (.ref a), some (lchD (t.root 0 0)), some (.ref b), some L, some (.ref p), o5, some (.ref q), o7, o8]) ?_ ?_
  rotate_left
  · intro nx hnx
    walk_at "dl"
    refine ⟨by omega, by omega, ?_⟩
    refine dLoop_inv (fun i τ M' => Sub M2 M' ∧ M' q = some (.lst (([.int (W 0), .int (W 1)] : List D).take i)) ∧ ∃ o5 o7 o8, τ = [some (.ref a), some (lchD (t.root 0 0)), some (.ref b), some L, some (.ref p), o5, some (.ref q), o7, o8]) (fun _ _ _ _ _ => trivial) ?_ ?_ ⟨Sub.refl.put hq, put_same, o5, none, none, rfl⟩
    · rintro i dd τ M' nxt hd ⟨s, hT, o5, o7, o8, rfl⟩ hnx'
      obtain ⟨hi, rfl⟩ := rng_at hd
      have hi : i < 2 := by simpa using hi
      have hbi : bit ((i : Nat) : Int) := by unfold bit; omega
      have hb1 := s _ _ (s1 _ _ hb)
      have hp1 := s _ _ m2p
      refine seq_split (fun τ M'' => ∃ u, M' u = none ∧ M'' = put M' u (.lst ((otherL es lot t.nl ((i : Nat) : Int)).map D.int)) ∧ τ = [some (.ref a), some (lchD (t.root 0 0)), some (.ref b), some L, some (.ref p), o5, some (.ref q), some (.int (i : Nat)), some (.ref u)]) ?_ ?_
      rotate_left
      · intro nx2 hnx2
        walk_at "dl"
        simp only [lenG_at hb1, List.length_map, hl]
        refine ⟨by walk_at "so", by walk_at "so", fun u hu => ?_⟩
        have ub : u ≠ b := by rintro rfl; rw [hb1] at hu; cases hu
        have up : u ≠ p := by rintro rfl; rw [hp1] at hu; cases hu
        refine dCL_map (xs := List.range t.nl) (fun l => D.int ((l : Nat) : Int)) (fun l => D.int (fillL es lot ((i : Nat) : Int) l)) (by simp) (by simp; omega) (fun _ => trivial) (fun l hll ys k' h => ?_) (hnx2 _ _ ⟨u, hu, by unfold otherL; rw [List.map_map]; rfl, rfl⟩)
        have hll : l < t.nl := List.mem_range.mp hll
        have j1 : ((kept lot t.nl lot.length).map D.int)[l]? = some (.int (if ((l : Nat) : Int) ∈ lot then 1 else 0)) := by rw [List.getElem?_map, kept_at hll, List.take_length]; rfl
        have j2 : (es.map D.int)[l]? = some (.int (lv es l)) := lv_at (by omega)
        simp only [wipeD]
        walk_at "dl"
        have g1 : ∀ Q, ixG (.ref p) (.int ((l : Nat) : Int)) (put M' u (.lst ys)) Q = Q (.int (if ((l : Nat) : Int) ∈ lot then 1 else 0)) (put M' u (.lst ys)) := fun Q => ixg_at (by rw [put_ne up.symm]; exact hp1) j1
        have g2 : ∀ Q, ixG (.ref b) (.int ((l : Nat) : Int)) (put M' u (.lst ys)) Q = Q (.int (lv es l)) (put M' u (.lst ys)) := fun Q => ixg_at (by rw [put_ne ub.symm]; exact hb1) j2
        simp only [g1, g2]
        have e1 := lv_bit hbt l
        have ef : fillL es lot ((i : Nat) : Int) l = if ((l : Nat) : Int) ∈ lot then lv es l else ((i : Nat) : Int) := by unfold fillL inLot; simp
        rw [ef] at h
        by_cases c : ((l : Nat) : Int) ∈ lot
        · rw [if_pos c] at h
          simp only [c, if_true, mulD_int, addD_int, g1]
          exact ⟨cm01 (.inr rfl) e1, cm01 (.inl rfl) hbi, by simpa using h⟩
        · rw [if_neg c] at h
          simp only [c, if_false, mulD_int, addD_int, g1]
          exact ⟨cm01 (.inl rfl) e1, cm01 (.inr rfl) hbi, by simpa using h⟩
      rintro τ M4 ⟨u, hu, rfl, rfl⟩
      have sU : Sub M' (put M' u (.lst ((otherL es lot t.nl ((i : Nat) : Int)).map D.int))) := Sub.refl.put hu
      generalize hM5 : put M' u (.lst ((otherL es lot t.nl ((i : Nat) : Int)).map D.int)) = M5 at sU
      have m5u : M5 u = some (.lst ((otherL es lot t.nl ((i : Nat) : Int)).map D.int)) := by rw [← hM5]; exact put_same
      clear hM5
      have m5q := sU _ _ hT
      have na5 : NodesAt M5 a t := na.sub (s1.trans (s.trans sU))
      walk_at "dl"
      refine ⟨by rw [metT_list m5q]; trivial, a, u, t, _, rfl, na5, m5u, g, otherL_len, fun o ho => ?_, fun v hv => ?_⟩
      · obtain ⟨l, _, rfl⟩ := List.mem_map.mp ho
        exact fillL_bit hbt hbi l
      · have uv : u ≠ v := by rintro rfl; rw [m5u] at hv; cases hv
        have qv : q ≠ v := by rintro rfl; rw [m5q] at hv; cases hv
        have re := root_entI (t := t) (es := otherL es lot t.nl ((i : Nat) : Int)) otherL_len
        rw [otherL_win] at re
        refine lent re (sq_at put_same) (sq_at (by rw [put_ne uv]; exact m5u)) ?_
        have m6q : (put M5 v (.lst ((wins (otherL es lot t.nl ((i : Nat) : Int)) t).map D.int))) q = some (.lst (([.int (W 0), .int (W 1)] : List D).take i)) := by rw [put_ne qv]; exact m5q
        simp only [append_at m6q]
        refine ⟨by simp; omega, hnx' _ _ ⟨((s.trans sU).put hv).put2 hq, ?_, _, _, _, rfl⟩⟩
        rw [put_same]
        have : i = 0 ∨ i = 1 := by omega
        rcases this with rfl | rfl
        · rfl
        · rfl
    · rintro τ M' ⟨s, hT, hτ⟩
      rw [len_rng] at hT
      exact hnx _ _ ⟨s, hT, hτ⟩
  rintro τ M4 ⟨s4, h4, o5', o7, o8, rfl⟩
  have k' := dropQ_of k (s1.trans s4)
  rw [certW_two hbt g.1] at k'
  walk_at "dl"
  simp only [ixg_at0 h4, ixg_at1 h4, eqD_int]
  by_cases c : W 0 = W 1
  · have c' : evalT wrule (fillL es lot 0) t 0 0 = evalT wrule (fillL es lot 1) t 0 0 := c
    rw [if_pos c'] at k'
    simp only [c, decide_true, if_true]
    simp only [plD, c'] at k'
    exact k'
  · have c' : ¬ evalT wrule (fillL es lot 0) t 0 0 = evalT wrule (fillL es lot 1) t 0 0 := c
    rw [if_neg c'] at k'
    simp only [c, decide_false, Bool.false_eq_true, if_false]
    exact k'
end K44

set_option maxHeartbeats 4000000
namespace K44
open PySem L2 DL DU
local macro_rules | `(tactic| walk_at "dl") => `(tactic| simp only [dSeq, dIfS, dB, dTru, truD, dOp, dVar, dC, dAsg, dAug, dCB, dCons, dNil, dRet, dRetN, dName, dGSub, dNext, ends, exOf, dstart, slot, oI0, oI, dAnd, dOr, dNot, dAndV, dOrV, dNotV, dNeg, dSl, dNoP, dPart, dFld, dFldS, dRaise, dLst, dTup, dFor, dIter, dRng1, dRng2, dCall, dMake, dMeth, dIxO, dLc, dYes, dGTup, dGCons, dGNil, dDrop, dBreak, dBM, dDIn, dNever, dChain, dRngD, dZip, dRaiseI, dLstRg, dDGet, dDGet2, dDNew, dGSubD, dDStar,
  eqD_str, neD_str, eqD_int, neD_int, ixG_t0, ixG_t1, isiG_str, isi_int, isi_int_s, isi_int_t, isi_tup, isi_tup_s, isi_tup_i, isi_str_i, isi_str_t, lenG_tup, addD_int, mulD_int, intG, List.nil_append, bne_iff_ne, ofS_inj, Bool.false_bne, Bool.true_bne,
  List.map, List.length_cons, List.length_nil, List.cons_append, List.append_nil, List.replicate, List.set, List.getElem?_cons_zero, List.getElem?_cons_succ, Option.join_some, Option.bind_some, decide_eq_true_eq])
local macro_rules | `(tactic| walk_at "so") => `(tactic| first | omega | (simp; done) | (simp; omega))
variable {K : PySem.W.Frag} {A : Adr} {w : World} {mg : Str → Option Value}
set_option maxHeartbeats 2000000
theorem cutT2 {d e : D} {ds : List D} : cutD (d :: e :: ds) none (some 2) = [d, e] := by
  have := cut_to (xs := d :: e :: ds) (i := 2)
  simpa using this
def Two (a b : Addr) : Addr → Prop := fun x => x = a ∨ x = b
/-- a walk through trees that counts leaves -/
theorem dCL_count {ts : List Tr} {outs : List D} {G : D → Sl → Sl} {te : DE} {kp : Mp → Prop} {p c : Addr} {τ : Sl} {F : Mp → Prop} {M : Mp} {k : Nat} (hl : outs.length = ts.length) (hls : ts.length ≤ 1000) (hp : M p = none) (hc : M c = some (.lst [.int ((k : Nat) : Int)])) (hk : ∀ M', kp M')
    (step : ∀ (i : Nat) (t : Tr) (o : D) (M' : Mp) (k' : D → Mp → Prop), ts[i]? = some t → outs[i]? = some o → M' c = some (.lst [.int ((k + nlL (ts.take i) : Nat) : Int)]) → Ext (Two c p) M M' →
      (∀ M2, M2 c = some (.lst [.int ((k + nlL (ts.take i) + t.nl : Nat) : Int)]) → Ext (Is c) M' M2 → k' o M2) → te (G t.toD τ) M' k' noE)
    (done : ∀ M', M' p = some (.lst outs) → M' c = some (.lst [.int ((k + nlL ts : Nat) : Int)]) → Ext (Two c p) M M' → F M') :
    dCL G dYes te kp p τ F (toDs ts) (put M p (.lst [])) := by
  have sl : sizeLine = 16777216 := sizeLine_eq
  have cp : c ≠ p := by rintro rfl; rw [hc] at hp; cases hp
  have hlt : (toDs ts).length = ts.length := by rw [toDs_map, List.length_map]
  refine dCL_inv (fun i M' => M' p = some (.lst (outs.take i)) ∧ M' c = some (.lst [.int ((k + nlL (ts.take i) : Nat) : Int)]) ∧ Ext (Two c p) M M') (fun _ _ _ _ => hk _) ?_ ?_ ⟨put_same, by rw [put_ne cp, List.take_zero, nlL_nil]; exact hc, .lay hp⟩
  · rintro i d M' nxt hd ⟨h1, h2, h3⟩ hn
    obtain ⟨t, e, rfl⟩ := toDs_at hd
    have hi := (List.getElem?_eq_some_iff.mp e).1
    have eo := List.getElem?_eq_getElem (show i < outs.length by omega)
    simp only [dYes, if_true]
    refine step i t _ M' _ e eo h2 h3 fun M2 g1 g2 => ?_
    have g3 : M2 p = some (.lst (outs.take i)) := g2 _ _ (fun z => cp z.symm) h1
    simp only [g3]
    refine ⟨by rw [List.length_take]; omega, hn _ ⟨?_, ?_, ?_⟩⟩
    · rw [put_same, List.take_add_one, eo]; rfl
    · rw [put_ne cp, g1, nl_snoc e, Nat.add_assoc]
    · exact (h3.trans (g2.wide fun x h => .inl h)).trans (.set (.inr rfl))
  · rintro M' ⟨h1, h2, h3⟩
    rw [hlt] at h1 h2
    rw [List.take_of_length_le (by omega)] at h1
    rw [List.take_of_length_le (Nat.le_refl _)] at h2
    exact done M' h1 h2 h3
theorem Two.new {M M' : Mp} {c p : Addr} (hp : M p = none) (e : Ext (Two c p) M M') : Ext (Is c) M M' := fun x o n h => e x o (by
  rintro (rfl | rfl)
  · exact n rfl
  · rw [hp] at h; cases h) h
theorem sq_ref {M : Mp} {b : Addr} : sq (.ref b) M = seqOf M b := rfl
theorem sq_ext {M M' : Mp} {S : Addr → Prop} {X : D} {xs : List D} (e : Ext S M M') (n : ∀ b, X = .ref b → ¬ S b) (h : sq X M = some xs) : sq X M' = some xs := by
  cases X with
  | tup ys => exact h
  | ref b =>
    have nb := n b rfl
    rw [sq_ref] at h ⊢
    unfold seqOf at h ⊢
    split at h
    · rename_i q; rw [e _ _ nb q]; exact h
    · rename_i q; rw [e _ _ nb q]; exact h
    · cases h
  | non => simp [sq] at h
  | bl b => simp [sq] at h
  | int i => simp [sq] at h
  | str z => simp [sq] at h
  | ty n => simp [sq] at h
theorem ix1 (n : Nat) (h : 0 < n) : ixN n 0 = some 0 := by rw [ixN_in (by omega) (by omega)]; rfl
theorem reL_at {es : List Int} : ∀ {ts : List Tr} {l i : Nat} {t : Tr}, ts[i]? = some t → (reL es ts l)[i]? = some (t.re es (l + nlL (ts.take i)))
  | [], l, i, t, h => by simp at h
  | u :: ts, l, 0, t, h => by
    simp only [List.getElem?_cons_zero, Option.some.injEq] at h
    subst h
    simp [reL, nlL_nil]
  | u :: ts, l, i + 1, t, h => by
    simp only [List.getElem?_cons_succ] at h
    rw [reL, List.getElem?_cons_succ, reL_at h, List.take_succ_cons, nlL_cons, Nat.add_assoc]
theorem grL_at {P : Nat → Tr} : ∀ {ts : List Tr} {l i : Nat} {t : Tr}, ts[i]? = some t → (grL P ts l)[i]? = some (t.gr P (l + nlL (ts.take i)))
  | [], l, i, t, h => by simp at h
  | u :: ts, l, 0, t, h => by
    simp only [List.getElem?_cons_zero, Option.some.injEq] at h
    subst h
    simp [grL, nlL_nil]
  | u :: ts, l, i + 1, t, h => by
    simp only [List.getElem?_cons_succ] at h
    rw [grL, List.getElem?_cons_succ, grL_at h, List.take_succ_cons, nlL_cons, Nat.add_assoc]
theorem mul_le_off {s : Int} {ts : List Tr} {i : Nat} {t : Tr} (e : ts[i]? = some t) : t.nl ≤ (Tr.nd s ts).nl := by
  have := off_le e; rw [nl_nd]; omega
theorem r_law_replaced {n : Nat} : ∀ ds M Q E, sp_law_replaced (n + 1) ds M Q E → t_law_replaced K A n (ends Q E) (dstart N_law_replaced ds) M := by
  rintro ds M Q E ⟨t, X, es, c, k0, rfl, hXc, hX, hc, hk, wt, hh, k⟩
  have sz := s2
  have sl : sizeLine = 16777216 := sizeLine_eq
  unfold t_law_replaced N_law_replaced
  cases t with
  | lf o =>
    rw [nl_lf] at hk k
    have e : (es.map D.int)[k0]? = some (.int (lv es k0)) := lv_at (by omega)
    simp only [Tr.toD, Tr.re] at k ⊢
    walk_at "dl"
    simp only [decide_true, if_true, ixg_at0 hc, addD_int, hc, ix1 _ (Nat.zero_lt_succ _), List.length_cons, List.length_nil, List.set]
    have e1 : (((k0 : Nat) : Int) + 1 - 1) = ((k0 : Nat) : Int) := by omega
    have sX : sq X (put M c (.lst [.int ((k0 : Nat) + 1)])) = some (es.map D.int) := sq_ext (S := Is c) (.set rfl) (fun b hb z => hXc b hb z) hX
    simp only [ixg_at0 (put_same (o := .lst [.int (((k0 : Nat) : Int) + 1)])), e1, ixG_sq sX e]
    exact ⟨by omega, dropQ_of (k _ (by rw [put_same]; rfl) (.set rfl)) .refl⟩
  | nd s ts =>
    have lk := len_kid wt
    rw [nl_nd] at hk k
    simp only [Tr.toD, Tr.re] at k ⊢
    walk_at "dl"
    simp only [show ¬ (Str.ofString "node" = Str.ofString "end") by simp [ofS_inj], decide_false, Bool.false_eq_true, if_false, slG, cut2, cutT2, itemsOf, keepOf]
    intro p hp
    refine dCL_count (ts := ts) (outs := (reL es ts k0).map Tr.toD) (by rw [List.length_map, reL_len]) (by omega) hp hc (fun _ => trivial) (fun i t o M' k' e eo h2 h3 h4 => ?_) fun M' h1 h2 h3 => ?_
    · simp only [wipeD]
      walk_at "dl"
      have ht := List.mem_of_getElem? e
      have ho := off_le e
      rw [List.getElem?_map, reL_at e] at eo
      have eo : (t.re es (k0 + nlL (ts.take i))).toD = o := by simpa using eo
      refine ⟨t, X, es, c, k0 + nlL (ts.take i), rfl, hXc, sq_ext h3 ?_ hX, h2, by omega, wf_kid wt ht, ht_kid hh ht, fun M2 g1 g2 => by rw [eo]; exact h4 M2 g1 g2⟩
      rintro b hb (rfl | rfl)
      · exact hXc _ hb rfl
      · subst hb; rw [sq_ref] at hX; unfold seqOf at hX; rw [hp] at hX; cases hX
    · simp only [tupG, seqOf_lst h1, addD]
      refine ⟨by simp [reL_len]; omega, ?_⟩
      have := k M' h2 (Two.new hp h3)
      rw [toDs_map] at this
      exact dropQ_of this .refl
end K44

set_option maxHeartbeats 4000000
namespace K44
open PySem L2 DL DU
local macro_rules | `(tactic| walk_at "dl") => `(tactic| simp only [dSeq, dIfS, dB, dTru, truD, dOp, dVar, dC, dAsg, dAug, dCB, dCons, dNil, dRet, dRetN, dName, dGSub, dNext, ends, exOf, dstart, slot, oI0, oI, dAnd, dOr, dNot, dAndV, dOrV, dNotV, dNeg, dSl, dNoP, dPart, dFld, dFldS, dRaise, dLst, dTup, dFor, dIter, dRng1, dRng2, dCall, dMake, dMeth, dIxO, dLc, dYes, dGTup, dGCons, dGNil, dDrop, dBreak, dBM, dDIn, dNever, dChain, dRngD, dZip, dRaiseI, dLstRg, dDGet, dDGet2, dDNew, dGSubD, dDStar,
  eqD_str, neD_str, eqD_int, neD_int, ixG_t0, ixG_t1, isiG_str, isi_int, isi_int_s, isi_int_t, isi_tup, isi_tup_s, isi_tup_i, isi_str_i, isi_str_t, lenG_tup, addD_int, mulD_int, intG, List.nil_append, bne_iff_ne, ofS_inj, Bool.false_bne, Bool.true_bne,
  List.map, List.length_cons, List.length_nil, List.cons_append, List.append_nil, List.replicate, List.set, List.getElem?_cons_zero, List.getElem?_cons_succ, Option.join_some, Option.bind_some, decide_eq_true_eq])
local macro_rules | `(tactic| walk_at "so") => `(tactic| first | omega | (simp; done) | (simp; omega))
variable {K : PySem.W.Frag} {A : Adr} {w : World} {mg : Str → Option Value}
set_option maxHeartbeats 2000000
theorem bestL_snoc {p : List Nat} : ∀ {ps : List (List Nat)} {acc : Option (List Nat)}, bestL acc (ps ++ [p]) = if (∀ c, bestL acc ps = some c → p.length < c.length) then some p else bestL acc ps
  | [], acc => by
    rw [List.nil_append]
    unfold bestL bestL
    by_cases c : ∀ c, acc = some c → p.length < c.length
    · rw [if_pos c, if_pos c]
    · rw [if_neg c, if_neg c]
  | q :: ps, acc => by
    rw [List.cons_append]
    unfold bestL
    exact bestL_snoc (ps := ps)
theorem lots_snoc {s : Int} {p : Ct} {vs : List Ct} : lotsOf s (vs ++ [p]) = lotsOf s vs ++ if p.1 = s then [p.2] else [] := by
  unfold lotsOf
  rw [List.filter_append, List.map_append]
  congr 1
  by_cases c : p.1 = s <;> simp [c]
theorem best_snoc {s : Int} {p : Ct} {vs : List Ct} : best s none (vs ++ [p]) = if p.1 = s ∧ (∀ c, best s none vs = some c → p.2.length < c.length) then some p.2 else best s none vs := by
  unfold best
  rw [lots_snoc]
  by_cases c : p.1 = s
  · rw [if_pos c, bestL_snoc]
    by_cases c2 : ∀ d, bestL none (lotsOf s vs) = some d → p.2.length < d.length
    · rw [if_pos c2, if_pos ⟨c, c2⟩]
    · rw [if_neg c2, if_neg fun z => c2 z.2]
  · rw [if_neg c, List.append_nil, if_neg fun z => c z.1]
def oD : Option (List Nat) → D
  | none => .non
  | some c => lotD c
theorem take_flat {vs : List Ct} {i : Nat} {p : Ct} (h : vs[i]? = some p) : (((vs.take (i + 1)).map (·.2)).flatten) = ((vs.take i).map (·.2)).flatten ++ p.2 := by
  rw [List.take_add_one, h]; simp
theorem take_flat_len {vs : List Ct} {i : Nat} : (((vs.take i).map (·.2)).flatten).length ≤ ((vs.map (·.2)).flatten).length := by
  conv => rhs; rw [← List.take_append_drop i vs, List.map_append, List.flatten_append, List.length_append]
  omega
theorem best_len {s : Int} {vs : List Ct} {c : List Nat} (h : best s none vs = some c) : c.length ≤ ((vs.map (·.2)).flatten).length := by
  unfold best at h
  rcases bestL_cases (ps := lotsOf s vs) with ⟨_, e⟩ | ⟨d, hd, e⟩
  · rw [e] at h; cases h
  · rw [e] at h; cases h
    rw [List.length_flatten]
    exact le_sum (List.mem_map.mpr ⟨_, List.mem_map.mpr ⟨_, lotsOf_mem.mp hd, rfl⟩, rfl⟩)
theorem lotD_len {c : List Nat} {M : Mp} {Q : DK} : lenG [lotD c] M Q = Q (.int ((c.length : Nat) : Int)) M := by
  unfold lotD; rw [lenG_tup, List.length_map]
theorem lotD_add {c d : List Nat} {M : Mp} {Q : DK} : addD (lotD c) (lotD d) M Q = (c.length + d.length ≤ sizeLine ∧ Q (lotD (c ++ d)) M) := by
  unfold lotD addD
  simp only [List.length_map, List.map_append]
/-- the law's choice of the best lot -/
theorem bestStep {s : Int} {p : Ct} {vs : List Ct} {bd x y : DE} {τ : Sl} {M : Mp} {Dn : DN} {tt : DS} (e1 : ∀ Q E, (∀ b, b = decide (p.1 = s) → Q b M) → dB x τ M Q E) (e2 : ∀ Q E, Q (lotD p.2) M → y τ M Q E) (e3 : ∀ Q E, Q (oD (best s none vs)) M → bd τ M Q E)
    (yes : best s none (vs ++ [p]) = some p.2 → tt Dn τ M) (no : best s none (vs ++ [p]) = best s none vs → Dn.nx τ M) :
    dIfS (dAnd (dB x) (dOr (dB (dOp (isG false) bd (dC .non))) (dB (dOp (oI0 fun i j => .bl (decide (i < j))) (dCB lenG (dCons y dNil)) (dCB lenG (dCons bd dNil)))))) tt dNext Dn τ M := by
  simp only [dIfS, dAnd]
  refine e1 _ _ fun b hb => ?_
  subst hb
  rw [best_snoc] at yes no
  by_cases c : p.1 = s
  · simp only [c, decide_true, if_true, dOr, dB, dOp, dC]
    refine e3 _ _ ?_
    cases hb : best s none vs with
    | none =>
      rw [hb] at yes
      simp only [oD, isG, isNone, Bool.false_bne, if_true]
      exact yes (by rw [if_pos ⟨c, fun _ h => by cases h⟩])
    | some d =>
      rw [hb] at yes no
      simp only [oD, isG, lotD, isNone, Bool.false_bne, Bool.false_eq_true, if_false, dCB, dCons, dNil]
      refine e2 _ _ ?_
      simp only [lotD_len, lenG_tup, List.length_map]
      refine e3 _ _ ?_
      rw [hb]
      simp only [oD, lotD_len, oI0]
      by_cases c2 : p.2.length < d.length
      · have c3 : ((p.2.length : Nat) : Int) < ((d.length : Nat) : Int) := by omega
        simp only [c3, decide_true, if_true]
        exact yes (by rw [if_pos ⟨c, fun _ h => by cases h; exact c2⟩])
      · have c3 : ¬ ((p.2.length : Nat) : Int) < ((d.length : Nat) : Int) := by omega
        simp only [c3, decide_false, Bool.false_eq_true, if_false]
        exact no (by rw [if_neg fun z => c2 (z.2 d rfl)])
  · simp only [c, decide_false, Bool.false_eq_true, if_false]
    exact no (by rw [if_neg fun z => c z.1])
def pX : List Tr → Nat → List (List D)
  | [], _ => []
  | t :: ts, l => [.int (cO t l).1, lotD (cO t l).2, .int ((t.nl : Nat) : Int)] :: pX ts (l + t.nl)
theorem pX_len : ∀ {ts : List Tr} {l : Nat}, (pX ts l).length = ts.length
  | [], l => rfl
  | t :: ts, l => by simp [pX, pX_len (ts := ts)]
theorem pX_snoc : ∀ {ts : List Tr} {l i : Nat} {t : Tr}, ts[i]? = some t → pX (ts.take (i + 1)) l = pX (ts.take i) l ++ [[.int (cO t (l + nlL (ts.take i))).1, lotD (cO t (l + nlL (ts.take i))).2, .int ((t.nl : Nat) : Int)]]
  | [], l, i, t, h => by simp at h
  | u :: ts, l, 0, t, h => by
    simp only [List.getElem?_cons_zero, Option.some.injEq] at h
    subst h
    simp [pX, nlL_nil]
  | u :: ts, l, i + 1, t, h => by
    simp only [List.getElem?_cons_succ] at h
    rw [List.take_succ_cons, pX, pX_snoc h, List.take_succ_cons, pX, nlL_cons, Nat.add_assoc]; rfl
theorem pX_at : ∀ {ts : List Tr} {l i : Nat} {x : List D}, (pX ts l)[i]? = some x → ∃ p n, (cOL ts l)[i]? = some p ∧ x = [.int p.1, lotD p.2, n]
  | [], l, i, x, h => by simp [pX] at h
  | t :: ts, l, 0, x, h => by
    simp only [pX, List.getElem?_cons_zero, Option.some.injEq] at h
    exact ⟨cO t l, _, by simp [cOL, cO, evalOL], h.symm⟩
  | t :: ts, l, i + 1, x, h => by
    simp only [pX, List.getElem?_cons_succ] at h
    obtain ⟨p, n, a, b⟩ := pX_at h
    exact ⟨p, n, by unfold cOL at a ⊢; rw [evalOL, List.getElem?_cons_succ]; exact a, b⟩
theorem cOL_len {ts : List Tr} {l : Nat} : (cOL ts l).length = ts.length := evalOL_len
theorem cOL_flat {ts : List Tr} {l : Nat} : (((cOL ts l).map (·.2)).flatten).length ≤ nlL ts := by
  obtain ⟨a, b⟩ := flatten_asc (ts := ts) (l := l) fun i t e => cO_asc t.ht t _ (Nat.le_refl _)
  refine asc_len (l := l) a fun x hx => ⟨b x hx, ?_⟩
  obtain ⟨c, hc, hx⟩ := List.mem_flatten.mp hx
  obtain ⟨p, hp, rfl⟩ := List.mem_map.mp hc
  obtain ⟨i, t, e, rfl⟩ := cOL_mem hp
  have h1 := cO_in t.ht t _ (Nat.le_refl _) x hx
  have h2 := off_le e
  omega
theorem frule_oD {s : Int} {vs : List Ct} : (best s none vs = none → frule 0 s vs = (1 - s, (vs.map (·.2)).flatten)) ∧ ∀ c, best s none vs = some c → frule 0 s vs = (s, c) := by
  unfold frule
  exact ⟨fun h => by rw [h], fun c h => by rw [h]⟩
theorem r_law_fewest {n : Nat} : ∀ ds M Q E, sp_law_fewest (n + 1) ds M Q E → t_law_fewest K A n (ends Q E) (dstart N_law_fewest ds) M := by
  rintro ds M Q E ⟨t, l, rfl, wt, hh, hnl, k⟩
  have sz := s2
  have sl : sizeLine = 16777216 := sizeLine_eq
  unfold t_law_fewest N_law_fewest
  cases t with
  | lf o =>
    rw [nl_lf, cO_lf] at k
    simp only [Tr.toD]
    walk_at "dl"
    exact ⟨by omega, by omega, fun p hp => dropQ_of (k p hp) .refl⟩
  | nd s ts =>
    have lk := len_kid wt
    rw [nl_nd] at hnl
    have hcl : (cOL ts l).length = ts.length := cOL_len
    have hfl := cOL_flat (ts := ts) (l := l)
    simp only [Tr.toD, dstart, List.map, List.length_cons, List.length_nil, List.replicate, List.cons_append, List.nil_append]
    generalize hT : (D.tup (.str "node" :: .int s :: toDs ts)) = T
    refine seq_split (fun τ M' => M = M' ∧ τ = [some T, some (.int (l : Nat)), none, none, none, none, none, none]) ?_ ?_
    rotate_left
    · intro nx hnx
      subst hT
      walk_at "dl"
      exact hnx _ _ ⟨rfl, rfl⟩
    rintro τ M1 ⟨rfl, rfl⟩
    refine seq_split (fun τ M' => ∃ p, M p = none ∧ M' = put M p (.lst []) ∧ τ = [some T, some (.int (l : Nat)), some (.ref p), none, none, none, none, none]) ?_ ?_
    rotate_left
    · intro nx hnx
      walk_at "dl"
      exact ⟨by omega, fun p hp => hnx _ _ ⟨p, hp, rfl, rfl⟩⟩
    rintro τ M1 ⟨p, hp, rfl, rfl⟩
    refine seq_split (fun τ M' => M' = put M p (.lst []) ∧ τ = [some T, some (.int (l : Nat)), some (.ref p), some (.int 0), none, none, none, none]) ?_ ?_
    rotate_left
    · intro nx hnx
      walk_at "dl"
      exact hnx _ _ ⟨rfl, rfl⟩
    rintro τ M1 ⟨rfl, rfl⟩
    refine seq_split (fun τ M' => ∃ rs o4 o5, Sub M M' ∧ M' p = some (.lst (rs.map D.ref)) ∧ RefsAt M' rs (pX ts l) ∧ τ = [some T, some (.int (l : Nat)), some (.ref p), some (.int ((nlL ts : Nat) : Int)), o4, o5, none, none]) ?_ ?_
    rotate_left
    · intro nx hnx
      subst hT
      walk_at "dl"
      simp only [slG, cut2, itemsOf, keepOf]
      refine dLoop_inv (fun i τ M' => ∃ rs o4 o5, Sub M M' ∧ M' p = some (.lst (rs.map D.ref)) ∧ p ∉ rs ∧ RefsAt M' rs (pX (ts.take i) l) ∧ τ = [some (.tup (.str "node" :: .int s :: toDs ts)), some (.int (l : Nat)), some (.ref p), some (.int ((nlL (ts.take i) : Nat) : Int)), o4, o5, none, none]) (fun _ _ _ _ _ => trivial) ?_ ?_ ⟨[], none, none, Sub.refl.put hp, put_same, by simp, by simpa [pX] using RefsAt.nil, by simp [nlL_nil]⟩
      · rintro i d τ M' nxt hd ⟨rs, o4, o5, sM, hP, np, hA, rfl⟩ hnx'
        obtain ⟨t, e, rfl⟩ := toDs_at hd
        have hi := (List.getElem?_eq_some_iff.mp e).1
        have ht := List.mem_of_getElem? e
        have ho := off_le e
        walk_at "dl"
        rw [show ((l : Nat) : Int) + ((nlL (ts.take i) : Nat) : Int) = ((l + nlL (ts.take i) : Nat) : Int) by omega]
        refine ⟨t, l + nlL (ts.take i), rfl, wf_kid wt ht, ht_kid hh ht, by omega, fun q hq => ?_⟩
        have qp : q ≠ p := by rintro rfl; rw [hP] at hq; cases hq
        generalize hx : ([.int (cO t (l + nlL (ts.take i))).1, lotD (cO t (l + nlL (ts.take i))).2, .int ((t.nl : Nat) : Int)] : List D) = x
        have hP2 : (put M' q (.lst x)) p = some (.lst (rs.map D.ref)) := by rw [put_ne qp.symm]; exact hP
        simp only [append_at hP2]
        have hq3 : ∀ o, (put (put M' q (.lst x)) p o) q = some (.lst x) := fun o => by rw [put_ne qp]; exact put_same
        have g2 : ∀ o Q, ixG (.ref q) (.int 2) (put (put M' q (.lst x)) p o) Q = Q (.int ((t.nl : Nat) : Int)) _ := fun o Q => ixg_at (i := 2) (hq3 o) (by rw [← hx]; rfl)
        simp only [g2, addD_int]
        have lr := hA.1
        rw [pX_len, List.length_take] at lr
        refine ⟨by rw [metT_list hP2]; trivial, by rw [List.length_map]; omega, hnx' _ _ ⟨rs ++ [q], some t.toD, some (.ref q), (sM.put hq).put2 hp, by rw [put_same]; simp, by simp [np, qp.symm], ?_, ?_⟩⟩
        · rw [pX_snoc e, hx]
          refine hA.snoc (fun r o hr h => ?_) (hq3 _)
          have rp : r ≠ p := fun z => np (z ▸ hr)
          have rq : r ≠ q := by rintro rfl; rw [h] at hq; cases hq
          rw [put_ne rp, put_ne rq]; exact h
        · rw [nl_snoc e]
          congr 4
      · rintro τ M' ⟨rs, o4, o5, sM, hP, np, hA, rfl⟩
        have e1 : (toDs ts).length = ts.length := by rw [toDs_map, List.length_map]
        rw [e1, List.take_length] at hA
        rw [e1, List.take_length]
        exact hnx _ _ ⟨rs, o4, o5, sM, hP, hA, rfl⟩
    rintro τ M2 ⟨rs, o4, o5, sM, hP, hA, rfl⟩
    refine seq_split (fun τ M' => M2 = M' ∧ τ = [some T, some (.int (l : Nat)), some (.ref p), some (.int ((nlL ts : Nat) : Int)), o4, o5, some .non, none]) ?_ ?_
    rotate_left
    · intro nx hnx
      walk_at "dl"
      exact hnx _ _ ⟨rfl, rfl⟩
    rintro τ M3 ⟨rfl, rfl⟩
    refine seq_split (fun τ M' => M2 = M' ∧ τ = [some T, some (.int (l : Nat)), some (.ref p), some (.int ((nlL ts : Nat) : Int)), o4, o5, some .non, some (.tup [])]) ?_ ?_
    rotate_left
    · intro nx hnx
      walk_at "dl"
      exact ⟨by omega, hnx _ _ ⟨rfl, rfl⟩⟩
    rintro τ M3 ⟨rfl, rfl⟩
    refine seq_split (fun τ M' => M2 = M' ∧ ∃ o5, τ = [some T, some (.int (l : Nat)), some (.ref p), some (.int ((nlL ts : Nat) : Int)), o4, o5, some (oD (best s none (cOL ts l))), some (lotD (((cOL ts l).map (·.2)).flatten))]) ?_ ?_
    rotate_left
    · intro nx hnx
      walk_at "dl"
      simp only [itemsOf, keepOf, seqOf_lst hP]
      have hrl := hA.1
      rw [pX_len] at hrl
      refine dLoop_inv (fun i τ M' => M2 = M' ∧ ∃ o5, τ = [some T, some (.int (l : Nat)), some (.ref p), some (.int ((nlL ts : Nat) : Int)), o4, o5, some (oD (best s none ((cOL ts l).take i))), some (lotD ((((cOL ts l).take i).map (·.2)).flatten))]) (fun i τ M' _ h => by rw [← h.1]; exact seqOf_lst hP) ?_ ?_ ⟨rfl, o5, by simp [best, lotsOf, bestL, oD, lotD]⟩
      · rintro i d τ M' nxt hd ⟨rfl, o5, rfl⟩ hnx'
        rw [List.getElem?_map] at hd
        cases er : rs[i]? with
        | none => rw [er] at hd; cases hd
        | some r =>
          rw [er] at hd
          have ed : d = .ref r := by simpa using hd.symm
          subst ed
          have hi := (List.getElem?_eq_some_iff.mp er).1
          have ex := List.getElem?_eq_getElem (show i < (pX ts l).length by rw [pX_len]; omega)
          have hM := hA.2 i r _ er ex
          obtain ⟨pc, nn, e1, e2⟩ := pX_at ex
          rw [e2] at hM
          have tf := take_flat e1
          have tl := take_flat_len (vs := cOL ts l) (i := i + 1)
          rw [tf, List.length_append] at tl
          have ts1 : (cOL ts l).take (i + 1) = (cOL ts l).take i ++ [pc] := by rw [List.take_add_one, e1]; rfl
          subst hT
          refine seq_split (fun τ M'' => M2 = M'' ∧ τ = [some (.tup (.str "node" :: .int s :: toDs ts)), some (.int (l : Nat)), some (.ref p), some (.int ((nlL ts : Nat) : Int)), o4, some (.ref r), some (oD (best s none ((cOL ts l).take i))), some (lotD ((((cOL ts l).take (i + 1)).map (·.2)).flatten))]) ?_ ?_
          rotate_left
          · intro nx2 hnx2
            walk_at "dl"
            simp only [ixg_at1 hM, lotD_add]
            exact ⟨by omega, hnx2 _ _ ⟨rfl, by rw [tf]⟩⟩
          rintro τ M4 ⟨rfl, rfl⟩
          refine bestStep (p := pc) (vs := (cOL ts l).take i) (s := s) (fun Q E h => ?_) (fun Q E h => ?_) (fun Q E h => ?_) (fun h => ?_) (fun h => ?_)
          · walk_at "dl"
            simp only [ixg_at0 hM, eqD_int]
            exact h _ rfl
          · walk_at "dl"
            simp only [ixg_at1 hM]; exact h
          · walk_at "dl"
            exact h
          · walk_at "dl"
            simp only [ixg_at1 hM]
            exact hnx' _ _ ⟨rfl, _, by rw [ts1, h]; rfl⟩
          · exact hnx' _ _ ⟨rfl, _, by rw [ts1, h]⟩
      · rintro τ M' ⟨rfl, o5, rfl⟩
        rw [List.length_map, hrl, ← hcl, List.take_length]
        exact hnx _ _ ⟨rfl, _, rfl⟩
    rintro τ M3 ⟨rfl, o5', rfl⟩
    rw [cO_nd, nl_nd] at k
    obtain ⟨f1, f2⟩ := frule_oD (s := s) (vs := cOL ts l)
    subst hT
    cases hb : best s none (cOL ts l) with
    | none =>
      rw [f1 hb] at k
      simp only [oD]
      walk_at "dl"
      simp only [isG, isNone, Bool.false_bne, if_true]
      exact ⟨by omega, fun q hq => dropQ_of (k q (sM.none hq)) sM.both⟩
    | some c =>
      rw [f2 c hb] at k
      simp only [oD]
      walk_at "dl"
      simp only [isG, lotD, isNone, Bool.false_bne, Bool.false_eq_true, if_false]
      exact ⟨by omega, fun q hq => dropQ_of (k q (sM.none hq)) sM.both⟩
end K44

set_option maxHeartbeats 4000000
namespace K44
open PySem L2 DL DU
local macro_rules | `(tactic| walk_at "dl") => `(tactic| simp only [dSeq, dIfS, dB, dTru, truD, dOp, dVar, dC, dAsg, dAug, dCB, dCons, dNil, dRet, dRetN, dName, dGSub, dNext, ends, exOf, dstart, slot, oI0, oI, dAnd, dOr, dNot, dAndV, dOrV, dNotV, dNeg, dSl, dNoP, dPart, dFld, dFldS, dRaise, dLst, dTup, dFor, dIter, dRng1, dRng2, dCall, dMake, dMeth, dIxO, dLc, dYes, dGTup, dGCons, dGNil, dDrop, dBreak, dBM, dDIn, dNever, dChain, dRngD, dZip, dRaiseI, dLstRg, dDGet, dDGet2, dDNew, dGSubD, dDStar,
  eqD_str, neD_str, eqD_int, neD_int, ixG_t0, ixG_t1, isiG_str, isi_int, isi_int_s, isi_int_t, isi_tup, isi_tup_s, isi_tup_i, isi_str_i, isi_str_t, lenG_tup, addD_int, mulD_int, intG, List.nil_append, bne_iff_ne, ofS_inj, Bool.false_bne, Bool.true_bne,
  List.map, List.length_cons, List.length_nil, List.cons_append, List.append_nil, List.replicate, List.set, List.getElem?_cons_zero, List.getElem?_cons_succ, Option.join_some, Option.bind_some, decide_eq_true_eq])
local macro_rules | `(tactic| walk_at "so") => `(tactic| first | omega | (simp; done) | (simp; omega))
variable {K : PySem.W.Frag} {A : Adr} {w : World} {mg : Str → Option Value}
structure KX (K : PySem.W.Frag) (A : Adr) : Prop where
  m3 : PySem.W.exmOne K (.ref A.OutOfRange) (.ref A.OutOfRange) = some true
  c2 : ExcC K A.OutOfRange
  k4 : PySem.W.kitOne K (.ref A.OutOfRange) (.ref A.InvalidTerm) = some false
  k5 : PySem.W.kitOne K (.ref A.OutOfRange) (.ref A.SizeMismatch) = some false
  k6 : PySem.W.kitOne K (.ref A.OutOfRange) (.ref A.TooLarge) = some false
  k7 : PySem.W.kitOne K (.ref A.OutOfRange) (.ref A.InvalidPlan) = some false
theorem isx {y : DX} {a C D : Addr} {M : Mp} {Q : DK} {b : Bool} (hd : ∀ dd, y.d = some dd → ∃ fs, M dd = some (.xd fs)) (hc : y.cls = .ref D) (he : ExcC K D) (hk : PySem.W.kitOne K (.ref D) (.ref C) = some b) (q : Q (.bl b) M) : isxF K y a [.ref a, .ref C] M Q := ⟨rfl, hd, D, b, .ref C, hc, he, .inl ⟨C, rfl, rfl⟩, hk, q⟩
set_option maxHeartbeats 2000000
theorem r_law_refused (X : KX K A) : ∀ ds M Q E, sp_law_refused A ds M Q E → t_law_refused K A (ends Q E) (dstart N_law_refused ds) M := by
  rintro ds M Q E ⟨a, t, lot, rfl, d, g, hp, k1, k2⟩
  have sl : sizeLine = 16777216 := sizeLine_eq
  unfold t_law_refused N_law_refused
  simp only [dstart, List.map, List.length_cons, List.length_nil, List.replicate, List.cons_append, List.nil_append]
  refine seq_split (fun τ M' => M = M' ∧ dropQ Q (.str "let") M) ?_ ?_
  rotate_left
  · intro nx hnx
    unfold dTryAll
    walk_at "dl"
    refine ⟨a, t, lot, rfl, d, g, hp, fun h => hnx _ _ ⟨rfl, dropQ_of (k1 h) .refl⟩, fun h => ?_⟩
    refine ⟨true, X.m3, fun _ b hb => ?_, (fun z => nomatch z)⟩
    simp only [caught, slotD, endD]
    walk_at "dl"
    refine isx (fun dd e => by cases e) rfl X.c2 X.k4 ?_
    simp only [Bool.false_eq_true, if_false]
    refine isx (fun dd e => by cases e) rfl X.c2 X.k5 ?_
    simp only [Bool.false_eq_true, if_false]
    refine isx (fun dd e => by cases e) rfl X.c2 X.k6 ?_
    simp only [Bool.false_eq_true, if_false]
    refine isx (fun dd e => by cases e) rfl X.c2 X.k7 ?_
    simp only [Bool.false_eq_true, if_false]
    exact dropQ_of (k2 h) .refl
  rintro τ M1 ⟨rfl, h⟩
  walk_at "dl"
  exact h
theorem nodes_of {M M' : Mp} {a : Addr} {us : List Addr} {t : Tr} (hl : us.length = t.nn) (ha : M' a = some (.lst (us.map D.ref))) (h : NodesNew M M' us t.sides (t.kids 0 0)) : NodesAt M' a t :=
  ⟨us, ha, hl, fun j s k h1 h2 => by
    obtain ⟨r, o, e1, _, _, e2, e3⟩ := h j s k h1 h2
    exact ⟨r, o, by rw [Nat.zero_add]; exact e1, e2, e3⟩⟩
theorem bad_neg {t : Tr} {a b : List Int} {x : Int} (h : ¬ (0 ≤ x ∧ x < t.nl)) : ¬ okLot t (a ++ [x] ++ b) := fun o => h (o.1 x (by simp))
theorem r_law_wrong : ∀ ds M Q E, sp_law_wrong ds M Q E → t_law_wrong K A (ends Q E) (dstart N_law_wrong ds) M := by
  rintro ds M Q E ⟨s, l, ns, t, lot, rfl, P, hn, hn1, ok, k⟩
  have sl : sizeLine = 16777216 := sizeLine_eq
  have J := LS.zero (S := Is s) P rfl
  have hll : lot.length ≤ 200 := by
    have h2 : (lot.map Int.toNat).Pairwise (· < ·) := by
      rw [List.pairwise_map]
      refine List.Pairwise.imp_of_mem (fun {a b} ha hb h => ?_) ok.2
      have := ok.1 a ha; have := ok.1 b hb; omega
    have := asc_len (l := 0) (n := t.nl) h2 fun x hx => by
      obtain ⟨y, hy, rfl⟩ := List.mem_map.mp hx
      have := ok.1 y hy; omega
    rw [List.length_map] at this; omega
  have fin : ∀ (bad : List Int) (M' : Mp), ¬ okLot t bad → bad.length ≤ 1000 → LS (Is s) M M' s l ns → dropQ Q (.tup (bad.map D.int)) M' := fun bad M' h1 h2 J' => dropQ_of (k bad h1 h2 M' J'.P J'.X) .refl
  unfold t_law_wrong N_law_wrong
  simp only [dstart, List.map, List.length_cons, List.length_nil, List.replicate, List.cons_append, List.nil_append]
  refine seq_split (fun τ M' => LS (Is s) M M' s l ns ∧ ∃ r : Int, 0 ≤ r ∧ r < 4 ∧ τ = [some (.ref s), some (.int (t.nl : Nat)), some (.tup (lot.map D.int)), some (.int r), none]) ?_ ?_
  rotate_left
  · intro nx hnx
    walk_at "dl"
    exact J.pick (by decide) (by decide) fun r M2 r0 r1 J2 e2 => hnx _ _ ⟨J2, r, r0, r1, rfl⟩
  rintro τ M1 ⟨J1, r, r0, r1, rfl⟩
  cases lot with
  | nil =>
    walk_at "dl"
    refine ⟨by omega, by omega, by omega, by omega, by omega, fun p hp => ?_⟩
    have J2 := J1.new hp (o := .lst [.tup [.int (-1)], .tup [.int (t.nl : Nat)], .tup [.int (((t.nl : Nat) : Int) + 5)], .tup [.int 999999999]])
    have one : ∀ x : Int, ¬ (0 ≤ x ∧ x < t.nl) → dropQ Q (.tup [.int x]) (put M1 p (.lst [.tup [.int (-1)], .tup [.int (t.nl : Nat)], .tup [.int (((t.nl : Nat) : Int) + 5)], .tup [.int 999999999]])) := fun x hx => fin [x] _ (bad_neg (a := []) (b := []) hx) (by simp) J2
    have : r = 0 ∨ r = 1 ∨ r = 2 ∨ r = 3 := by omega
    rcases this with rfl | rfl | rfl | rfl
    · rw [ixg_at0 put_same]; exact one _ (by omega)
    · rw [ixg_at1 put_same]; exact one _ (by omega)
    · rw [show (2 : Int) = ((2 : Nat) : Int) from rfl, ixg_at (i := 2) put_same rfl]; exact one _ (by omega)
    · rw [show (3 : Int) = ((3 : Nat) : Int) from rfl, ixg_at (i := 3) put_same rfl]; exact one _ (by omega)
  | cons z zs =>
    generalize hlot : z :: zs = lot at *
    have ne : 0 < lot.length := by rw [← hlot]; simp
    refine seq_split (fun τ M' => M1 = M' ∧ τ = [some (.ref s), some (.int (t.nl : Nat)), some (.tup (lot.map D.int)), some (.int r), none]) ?_ ?_
    rotate_left
    · intro nx hnx
      walk_at "dl"
      rw [if_neg (by rw [List.length_map]; omega)]
      exact hnx _ _ ⟨rfl, rfl⟩
    rintro τ M2 ⟨rfl, rfl⟩
    refine seq_split (fun τ M' => LS (Is s) M M' s l ns ∧ ∃ at_ : Nat, at_ < lot.length ∧ τ = [some (.ref s), some (.int (t.nl : Nat)), some (.tup (lot.map D.int)), some (.int r), some (.int (at_ : Nat))]) ?_ ?_
    rotate_left
    · intro nx hnx
      walk_at "dl"
      simp only [List.length_map]
      exact J1.pick (by omega) (log_small (by omega)) fun x M2 x0 x1 J2 e2 => hnx _ _ ⟨J2, x.toNat, by omega, by rw [Int.toNat_of_nonneg x0]⟩
    rintro τ M2 ⟨J2, at_, hat, rfl⟩
    have ex := List.getElem?_eq_getElem hat
    generalize lot[at_] = x at ex
    have i1 : (lot.map D.int)[at_]? = some (.int x) := by rw [List.getElem?_map, ex]; rfl
    have eT : D.tup (lot.map D.int) = T lot := rfl
    have sPre : ∀ M Q, slG (.tup (lot.map D.int)) none (some ((at_ : Nat) : Int)) M Q = Q (T (lot.take at_)) M := fun M Q => by
      have := slG_pre (xs := lot) (i := ((at_ : Nat) : Int)) (M := M) (Q := Q) (Int.natCast_nonneg _)
      rwa [Int.toNat_natCast] at this
    have sPost : ∀ (i : Int) M Q, 0 ≤ i → slG (.tup (lot.map D.int)) (some i) none M Q = Q (T (lot.drop i.toNat)) M := fun i M Q h => slG_post h
    have ltk : (lot.take at_).length ≤ 200 := by rw [List.length_take]; omega
    have ld : ∀ n, (lot.drop n).length ≤ 200 := fun n => by rw [List.length_drop]; omega
    refine seq_split (fun τ M' => LS (Is s) M M' s l ns ∧ r ≠ 0 ∧ τ = [some (.ref s), some (.int (t.nl : Nat)), some (.tup (lot.map D.int)), some (.int r), some (.int (at_ : Nat))]) ?_ ?_
    rotate_left
    · intro nx hnx
      walk_at "dl"
      by_cases c : r = 0
      · simp only [c, decide_true, if_true, sPre]
        refine J2.pick (by decide) (by decide) fun u M3 u0 u1 J3 e3 => ⟨by omega, ?_⟩
        rw [tup_T1, addD_T]
        refine ⟨by simp; omega, J3.pick (by decide) (by decide) fun v M4 v0 v1 J4 e4 => ?_⟩
        rw [addD_int]
        simp only
        rw [sPost _ _ _ (by omega), addD_T]
        have := ld (((at_ : Nat) : Int) + v).toNat
        refine ⟨by rw [List.length_append]; simp only [List.length_cons, List.length_nil]; omega, fin _ _ (bad_neg (by omega)) (by rw [List.length_append, List.length_append]; simp only [List.length_cons, List.length_nil]; omega) J4⟩
      · simp only [c, decide_false, Bool.false_eq_true, if_false]
        exact hnx _ _ ⟨J2, c, rfl⟩
    rintro τ M3 ⟨J3, c0, rfl⟩
    refine seq_split (fun τ M' => LS (Is s) M M' s l ns ∧ r ≠ 1 ∧ τ = [some (.ref s), some (.int (t.nl : Nat)), some (.tup (lot.map D.int)), some (.int r), some (.int (at_ : Nat))]) ?_ ?_
    rotate_left
    · intro nx hnx
      walk_at "dl"
      by_cases c : r = 1
      · simp only [c, decide_true, if_true, sPre]
        refine J3.pick (by decide) (by decide) fun u M4 u0 u1 J4 e3 => ⟨by omega, ?_⟩
        rw [tup_T1, addD_T]
        refine ⟨by simp; omega, ?_⟩
        rw [sPost _ _ _ (by omega), addD_T]
        have := ld (((at_ : Nat) : Int) + 1).toNat
        refine ⟨by rw [List.length_append]; simp only [List.length_cons, List.length_nil]; omega, fin _ _ (bad_neg (by omega)) (by rw [List.length_append, List.length_append]; simp only [List.length_cons, List.length_nil]; omega) J4⟩
      · simp only [c, decide_false, Bool.false_eq_true, if_false]
        exact hnx _ _ ⟨J3, c, rfl⟩
    rintro τ M4 ⟨J4, c1, rfl⟩
    refine seq_split (fun τ M' => LS (Is s) M M' s l ns ∧ r ≠ 2 ∧ τ = [some (.ref s), some (.int (t.nl : Nat)), some (.tup (lot.map D.int)), some (.int r), some (.int (at_ : Nat))]) ?_ ?_
    rotate_left
    · intro nx hnx
      walk_at "dl"
      by_cases c : r = 2
      · simp only [c, decide_true, if_true, ixG_nat i1, sPre]
        refine ⟨by omega, ?_⟩
        rw [tup_T1, addD_T]
        refine ⟨by simp; omega, ?_⟩
        rw [sPost _ _ _ (Int.natCast_nonneg at_), addD_T]
        have := ld at_
        rw [Int.toNat_natCast]
        refine ⟨by rw [List.length_append]; simp only [List.length_cons, List.length_nil]; omega, fin _ _ (fun o => ?_) (by rw [List.length_append, List.length_append]; simp only [List.length_cons, List.length_nil]; omega) J4⟩
        have h := (List.pairwise_append.mp o.2).2.2 x (by simp) x (List.mem_of_getElem? (show (lot.drop at_)[0]? = some x by rw [List.getElem?_drop, Nat.add_zero]; exact ex))
        omega
      · simp only [c, decide_false, Bool.false_eq_true, if_false]
        exact hnx _ _ ⟨J4, c, rfl⟩
    rintro τ M5 ⟨J5, c2, rfl⟩
    obtain ⟨ls, la, hls⟩ : ∃ ls la, lot = ls ++ [la] := ⟨lot.dropLast, lot.getLast (by rintro rfl; simp at ne), (List.dropLast_concat_getLast _).symm⟩
    have la0 := ok.1 la (by rw [hls]; simp)
    walk_at "dl"
    have i2 : ∀ M Q, ixG (.tup (lot.map D.int)) (.int (-1)) M Q = Q (.int la) M := fun M Q => by
      rw [hls, List.map_append]; exact ixG_last
    simp only [i2, addD_int]
    refine J5.pick (by omega) (log_small (by omega)) fun u M6 u0 u1 J6 e6 => ⟨by omega, ?_⟩
    rw [eT, tup_T1, addD_T]
    refine ⟨by simp; omega, fin _ _ (fun o => ?_) (by simp; omega) J6⟩
    have h := (List.pairwise_append.mp o.2).2.2 la (by rw [hls]; simp) u (by simp)
    omega
end K44

set_option maxHeartbeats 4000000
namespace K44
open PySem L2 DL DU
local macro_rules | `(tactic| walk_at "dl") => `(tactic| simp only [dSeq, dIfS, dB, dTru, truD, dOp, dVar, dC, dAsg, dAug, dCB, dCons, dNil, dRet, dRetN, dName, dGSub, dNext, ends, exOf, dstart, slot, oI0, oI, dAnd, dOr, dNot, dAndV, dOrV, dNotV, dNeg, dSl, dNoP, dPart, dFld, dFldS, dRaise, dLst, dTup, dFor, dIter, dRng1, dRng2, dCall, dMake, dMeth, dIxO, dLc, dYes, dGTup, dGCons, dGNil, dDrop, dBreak, dBM, dDIn, dNever, dChain, dRngD, dZip, dRaiseI, dLstRg, dDGet, dDGet2, dDNew, dGSubD, dDStar,
  eqD_str, neD_str, eqD_int, neD_int, ixG_t0, ixG_t1, isiG_str, isi_int, isi_int_s, isi_int_t, isi_tup, isi_tup_s, isi_tup_i, isi_str_i, isi_str_t, lenG_tup, addD_int, mulD_int, intG, List.nil_append, bne_iff_ne, ofS_inj, Bool.false_bne, Bool.true_bne,
  List.map, List.length_cons, List.length_nil, List.cons_append, List.append_nil, List.replicate, List.set, List.getElem?_cons_zero, List.getElem?_cons_succ, Option.join_some, Option.bind_some, decide_eq_true_eq])
local macro_rules | `(tactic| walk_at "so") => `(tactic| first | omega | (simp; done) | (simp; omega))
variable {K : PySem.W.Frag} {A : Adr} {w : World} {mg : Str → Option Value}
set_option maxHeartbeats 2000000
theorem same_ok {x : D} {M : Mp} {Q : DK} {E : EK} (h : okS 23 x) (k : Q (.bl true) M) : sp_law_same 24 [x, x] M Q E := ⟨x, rfl, h, k⟩
theorem okS_int {n : Nat} {i : Int} : okS n (.int i) := by cases n <;> simp [okS, ok]
theorem okS_pl {n : Nat} {o : Option Int} : okS n (plD o) := by cases o <;> cases n <;> simp [plD, okS, ok]
theorem okS_lot {n : Nat} {c : List Nat} (h : c.length ≤ 100000) : okS (n + 1) (lotD c) := by
  rw [lotD_I]; exact okS_T (by unfold lotI; rw [List.length_map]; exact h)
theorem LSsub {S : Addr → Prop} {M0 M M' : Mp} {s l : Addr} {ns : List Int} (J : LS S M0 M s l ns) (h : Sub M M') : LS S M0 M' s l ns := by
  obtain ⟨⟨p1, p2, seed, pos, rest, p3, p4⟩, x, ss⟩ := J
  exact ⟨⟨p1, h _ _ p2, seed, pos, rest, h _ _ p3, p4⟩, x.trans (.sub h), ss⟩
theorem OwnSub {S : Addr → Prop} {M0 M M' : Mp} {s l p : Addr} {o : MO} (O : Own S M0 M s l p o) (h : Sub M M') : Own S M0 M' s l p o := ⟨h _ _ O.a, O.z, O.ns, O.nl⟩
theorem lotI_len {c : List Nat} : (lotI c).length = c.length := by unfold lotI; rw [List.length_map]
theorem asc_ok {t : Tr} {c : List Nat} (h : c.Pairwise (· < ·)) (hx : ∀ x, x ∈ c → x < t.nl) : okLot t (lotI c) := by
  refine ⟨fun x hx' => ?_, ?_⟩
  · obtain ⟨n, hn, rfl⟩ := List.mem_map.mp hx'
    have := hx n hn; omega
  · unfold lotI
    rw [List.pairwise_map]
    exact h.imp fun h => by omega
theorem lotD_sl {c : List Nat} {i : Nat} {M : Mp} {Q : DK} : slG (lotD c) none (some ((i : Nat) : Int)) M Q = Q (lotD (c.take i)) M := by
  rw [lotD_I, lotD_I]
  have := slG_pre (xs := lotI c) (i := ((i : Nat) : Int)) (M := M) (Q := Q) (Int.natCast_nonneg _)
  rw [Int.toNat_natCast] at this
  unfold lotI at this ⊢
  rw [List.map_take]; exact this
theorem lotD_sl2 {c : List Nat} {i : Int} {M : Mp} {Q : DK} (h : 0 ≤ i) : slG (lotD c) (some i) none M Q = Q (lotD (c.drop i.toNat)) M := by
  rw [lotD_I, lotD_I]
  have := slG_post (xs := lotI c) (i := i) (M := M) (Q := Q) h
  unfold lotI at this ⊢
  rw [List.map_drop]; exact this
theorem any_lot {c : List Nat} {x : Nat} : ((c.map fun n => D.int ((n : Nat) : Int)).any fun d => eqb d (.int ((x : Nat) : Int))) = decide (x ∈ c) := by
  have := any_ints (vs := lotI c) (x := ((x : Nat) : Int))
  unfold lotI at this
  rw [List.map_map] at this
  rw [show (fun n : Nat => D.int ((n : Nat) : Int)) = D.int ∘ fun n => ((n : Nat) : Int) from rfl, this]
  congr 1
  simp only [List.mem_map, eq_iff_iff]
  constructor
  · rintro ⟨a, h, e⟩
    have : a = x := by omega
    rw [← this]; exact h
  · intro h; exact ⟨x, h, rfl⟩
theorem inG_lot {c : List Nat} {x : Nat} {n : Bool} {M : Mp} {Q : DK} : inG n (.int ((x : Nat) : Int)) (lotD c) M Q = Q (.bl (n != decide (x ∈ c))) M := by
  unfold inG lotD
  have hf : (c.map fun n => D.int ((n : Nat) : Int)).all flatD = true := by
    rw [List.all_eq_true]; intro d hd
    obtain ⟨v, _, rfl⟩ := List.mem_map.mp hd; rfl
  simp only [seqD, hf, any_lot, flatD, true_and]
theorem thin_mem {c : List Nat} (h : c.Pairwise (· < ·)) {i x : Nat} (e : c[i]? = some x) (y : Nat) : y ∈ c.take i ++ c.drop (i + 1) ↔ y ∈ c ∧ y ≠ x := by
  have hi := (List.getElem?_eq_some_iff.mp e).1
  have hc : c = c.take i ++ x :: c.drop (i + 1) := by
    have h2 : x :: c.drop (i + 1) = c.drop i := by
      rw [List.drop_eq_getElem_cons hi, (List.getElem?_eq_some_iff.mp e).2]
    rw [h2, List.take_append_drop]
  have hp := h
  rw [hc] at hp
  obtain ⟨p1, p2, p3⟩ := List.pairwise_append.mp hp
  obtain ⟨p4, p5⟩ := List.pairwise_cons.mp p2
  constructor
  · intro hy
    refine ⟨?_, ?_⟩
    · rw [hc]
      rcases List.mem_append.mp hy with hy | hy
      · exact List.mem_append_left _ hy
      · exact List.mem_append_right _ (List.mem_cons_of_mem _ hy)
    · rintro rfl
      rcases List.mem_append.mp hy with hy | hy
      · have := p3 _ hy _ (by simp : y ∈ y :: _); omega
      · have := p4 _ hy; omega
  · rintro ⟨hy, n⟩
    rw [hc] at hy
    rcases List.mem_append.mp hy with hy | hy
    · exact List.mem_append_left _ hy
    · rcases List.mem_cons.mp hy with rfl | hy
      · exact (n rfl).elim
      · exact List.mem_append_right _ hy
theorem asc_sub {c d : List Nat} (h : c.Pairwise (· < ·)) (s : d.Sublist c) : d.Pairwise (· < ·) := h.sublist s
theorem thin_sub {c : List Nat} {i : Nat} : (c.take i ++ c.drop (i + 1)).Sublist c := by
  conv => rhs; rw [← List.take_append_drop i c]
  refine List.Sublist.append (List.Sublist.refl _) ?_
  rw [← List.drop_drop]
  exact List.drop_sublist 1 _
def ninL (c : List Nat) (n : Nat) : List Nat := (List.range n).filter fun x => decide (x ∉ c)
theorem nin_map {c : List Nat} : ∀ (r : List Nat), ((r.map fun x => if x ∈ c then none else some x).filterMap id) = r.filter fun x => decide (x ∉ c)
  | [] => rfl
  | a :: r => by
    rw [List.map_cons, List.filter_cons]
    by_cases h : a ∈ c
    · rw [if_pos h, List.filterMap_cons_none (f := id) rfl, nin_map r]; simp [h]
    · rw [if_neg h, List.filterMap_cons_some (f := id) (b := a) rfl, nin_map r]; simp [h]
theorem nin_filter {c : List Nat} {n : Nat} : (((List.range n).map fun x => if x ∈ c then none else some x).filterMap id) = ninL c n := nin_map _
theorem duel_ne {M : Mp} {s l d C : Addr} {ns : List Int} {t : Tr} (P : PSt M s l ns) (h : DuelAt C M d t) : d ≠ s := by
  rintro rfl
  unfold DuelAt at h
  obtain ⟨_, _, _, _, _, p, _⟩ := P
  rw [p] at h; cases h
theorem re_certO {t : Tr} {es lot : List Int} (hl : es.length = t.nl) (h : ∀ l, inLot lot l = true → lv es l = lv t.ends l) : certO (t.re es 0) lot = certO t lot := by
  rw [← certW_O, ← certW_O, re_ends_all hl]
  unfold certW
  rw [re_eval]
  congr 1
  funext l
  by_cases c : inLot lot l = true
  · rw [if_pos c, if_pos c, h l c]
  · rw [if_neg c, if_neg c]
theorem re_winO {t : Tr} {es : List Int} (hl : es.length = t.nl) : winO (t.re es 0) = win es t := by
  rw [← win_O, re_ends_all hl]
  unfold win; rw [re_eval]
theorem bit_mod (x : Int) : bit (x % 2) := by unfold bit; omega
theorem pow_at {i : Nat} (h : i < 6) : ∃ v : Nat, ([.int 1, .int 2, .int 4, .int 8, .int 16, .int 32] : List D)[i]? = some (.int (v : Nat)) ∧ 0 < v ∧ v ≤ 32 := by
  have : i = 0 ∨ i = 1 ∨ i = 2 ∨ i = 3 ∨ i = 4 ∨ i = 5 := by omega
  rcases this with rfl | rfl | rfl | rfl | rfl | rfl
  · exact ⟨1, rfl, by omega, by omega⟩
  · exact ⟨2, rfl, by omega, by omega⟩
  · exact ⟨4, rfl, by omega, by omega⟩
  · exact ⟨8, rfl, by omega, by omega⟩
  · exact ⟨16, rfl, by omega, by omega⟩
  · exact ⟨32, rfl, by omega, by omega⟩
section
variable {t : Tr} {M : Mp} {Q : DK} {E : EK} {d : Addr} {lot : List Int}
theorem cert_ok (h : DuelAt A.Duel M d t) (g : good t) (hl : lot.length ≤ 1000) (ho : okLot t lot) {v : Option Int} (hv : certO t lot = v) (k : Q (plD v) M) : sp_certified_outcome A [.ref d, .tup (lot.map D.int)] M Q E :=
  ⟨d, t, lot, rfl, h, g, hl, fun _ => by rw [hv]; exact k, fun n => (n ho).elim⟩
end
end K44

set_option maxHeartbeats 4000000
namespace K44
open PySem L2 DL DU
local macro_rules | `(tactic| walk_at "dl") => `(tactic| simp only [dSeq, dIfS, dB, dTru, truD, dOp, dVar, dC, dAsg, dAug, dCB, dCons, dNil, dRet, dRetN, dName, dGSub, dNext, ends, exOf, dstart, slot, oI0, oI, dAnd, dOr, dNot, dAndV, dOrV, dNotV, dNeg, dSl, dNoP, dPart, dFld, dFldS, dRaise, dLst, dTup, dFor, dIter, dRng1, dRng2, dCall, dMake, dMeth, dIxO, dLc, dYes, dGTup, dGCons, dGNil, dDrop, dBreak, dBM, dDIn, dNever, dChain, dRngD, dZip, dRaiseI, dLstRg, dDGet, dDGet2, dDNew, dGSubD, dDStar,
  eqD_str, neD_str, eqD_int, neD_int, ixG_t0, ixG_t1, isiG_str, isi_int, isi_int_s, isi_int_t, isi_tup, isi_tup_s, isi_tup_i, isi_str_i, isi_str_t, lenG_tup, addD_int, mulD_int, intG, List.nil_append, bne_iff_ne, ofS_inj, Bool.false_bne, Bool.true_bne,
  List.map, List.length_cons, List.length_nil, List.cons_append, List.append_nil, List.replicate, List.set, List.getElem?_cons_zero, List.getElem?_cons_succ, Option.join_some, Option.bind_some, decide_eq_true_eq])
local macro_rules | `(tactic| walk_at "so") => `(tactic| first | omega | (simp; done) | (simp; omega))
variable {K : PySem.W.Frag} {A : Adr} {w : World} {mg : Str → Option Value}
set_option maxHeartbeats 2000000
theorem lotsL_len : ∀ {k s : Nat}, (lotsL k s).length = 2 ^ k
  | 0, s => rfl
  | k + 1, s => by
    rw [lotsL, List.length_cons, List.length_append, List.length_map, List.length_tail, lotsL_len, Nat.pow_succ]
    have := Nat.one_le_two_pow (n := k); omega
theorem pow6 {k : Nat} (h : k ≤ 6) : 2 ^ k ≤ 64 := by
  have := Nat.pow_le_pow_right (n := 2) (by omega) h; simpa using this
theorem lotsF_le {k s i : Nat} (h : i ≤ k) (hk : k ≤ 6) : (lotsF k s i).length ≤ 64 := by
  have h1 : (lotsF k s k).length ≤ 64 := by
    rw [← lotsF_all, List.length_tail, lotsL_len]; have := pow6 hk; omega
  have h2 : ∀ d, i + d ≤ k → (lotsF k s i).length ≤ (lotsF k s (i + d)).length := by
    intro d
    induction d with
    | zero => intro _; exact Nat.le_refl _
    | succ d ih =>
      intro hd
      have := ih (by omega)
      rw [← Nat.add_assoc, lotsF_snoc, List.length_append]; omega
  have := h2 (k - i) (by omega)
  rw [show i + (k - i) = k by omega] at this
  omega
theorem r_law_lots {n : Nat} : ∀ ds M Q E, sp_law_lots (n + 1) ds M Q E → t_law_lots K A n (ends Q E) (dstart N_law_lots ds) M := by
  rintro ds M Q E ⟨s, k, rfl, hkn, hk6, hs, kk⟩
  have sl : sizeLine = 16777216 := sizeLine_eq
  unfold t_law_lots N_law_lots
  simp only [dstart, List.map, List.length_cons, List.length_nil, List.replicate, List.cons_append, List.nil_append]
  refine seq_split (fun τ M' => ∃ p, M p = none ∧ M' = put M p (.lst [.tup []]) ∧ τ = [some (.int (s : Nat)), some (.int ((s + k : Nat) : Int)), some (.ref p), none, none]) ?_ ?_
  rotate_left
  · intro nx hnx
    walk_at "dl"
    exact ⟨by omega, by omega, fun p hp => hnx _ _ ⟨p, hp, rfl, rfl⟩⟩
  rintro τ M1 ⟨p, hp, rfl, rfl⟩
  refine seq_split (fun τ M' => Sub M M' ∧ ∃ q o3 o4, M q = none ∧ M' q = some (.lst ((lotsL k s).map lotD)) ∧ τ = [some (.int (s : Nat)), some (.int ((s + k : Nat) : Int)), some (.ref q), o3, o4]) ?_ ?_
  rotate_left
  · intro nx hnx
    walk_at "dl"
    refine ⟨⟨by omega, by omega, by omega, by omega⟩, by omega, ?_⟩
    rw [show (((s + k : Nat) : Int) - ((s : Nat) : Int)).toNat = k by omega]
    refine dLoop_inv (fun i τ M' => Sub M M' ∧ ∃ q o3 o4, M q = none ∧ M' q = some (.lst (([] :: lotsF k s i).map lotD)) ∧ τ = [some (.int (s : Nat)), some (.int ((s + k : Nat) : Int)), some (.ref q), o3, o4]) (fun _ _ _ _ _ => trivial) ?_ ?_ ⟨Sub.refl.put hp, p, none, none, hp, by rw [put_same]; simp [lotsF, lotD], rfl⟩
    · rintro i d τ M' nxt hd ⟨sM, q, o3, o4, hq, hL, rfl⟩ hnx'
      obtain ⟨hi, rfl⟩ := rng_at hd
      walk_at "dl"
      rw [show ((s : Nat) : Int) + ((i : Nat) : Int) + 1 = ((s + i + 1 : Nat) : Int) by omega]
      refine ⟨s + i + 1, k - 1 - i, by rw [show s + i + 1 + (k - 1 - i) = s + k by omega], by omega, by omega, by omega, fun u hu => ?_⟩
      have uq : q ≠ u := by rintro rfl; rw [hL] at hu; cases hu
      simp only [itemsOf, keepOf, seqOf_lst put_same]
      intro v hv
      have vu : u ≠ v := by rintro rfl; rw [put_same] at hv; cases hv
      have vq : q ≠ v := by rintro rfl; rw [put_ne uq, hL] at hv; cases hv
      have l64 := pow6 (show k - 1 - i ≤ 6 by omega)
      refine dCL_map (xs := lotsL (k - 1 - i) (s + i + 1)) lotD (fun c => lotD ((s + i) :: c)) rfl (by rw [lotsL_len]; omega) (fun ys => seqOf_lst (by rw [put_ne vu]; exact put_same)) (fun c hc ys k' h => ?_) ?_
      · obtain ⟨c1, c2⟩ := lots_mem.mp hc
        have lc := asc_len (l := s + i + 1) (n := k - 1 - i) c1 fun x hx => c2 x hx
        simp only [wipeD]
        walk_at "dl"
        refine ⟨by omega, ?_⟩
        rw [show D.tup [.int (((s : Nat) : Int) + ((i : Nat) : Int))] = lotD [s + i] by simp [lotD], lotD_add]
        exact ⟨by rw [List.length_singleton]; omega, h⟩
      · have g1 : (put (put M' u (.lst ((lotsL (k - 1 - i) (s + i + 1)).map lotD))) v (.lst ((lotsL (k - 1 - i) (s + i + 1)).map fun c => lotD ((s + i) :: c)))) q = some (.lst (([] :: lotsF k s i).map lotD)) := by rw [put_ne vq, put_ne uq]; exact hL
        have lF := lotsF_le (k := k) (s := s) (i := i) (by omega) hk6
        simp only [addD, g1, put_same, List.length_map, List.length_cons, lotsL_len]
        refine ⟨by omega, fun w hw => hnx' _ _ ⟨((sM.put hu).put hv).put hw, w, _, _, ?_, ?_, rfl⟩⟩
        · exact ((sM.put hu).put hv).none hw
        · rw [put_same, lotsF_snoc]
          simp [List.map_append, List.map_map, Function.comp]
    · rintro τ M' ⟨sM, q, o3, o4, hq, hL, rfl⟩
      rw [len_rng, ← lotsL_F] at hL
      exact hnx _ _ ⟨sM, q, o3, o4, hq, hL, rfl⟩
  rintro τ M2 ⟨sM, q, o3, o4, hq, hL, rfl⟩
  walk_at "dl"
  exact dropQ_of (kk q hq) (put_sub sM hL)
theorem pw7 {i : Nat} (h : i < 7) : ([.int 1, .int 2, .int 4, .int 8, .int 16, .int 32, .int 64] : List D)[i]? = some (.int ((2 ^ i : Nat) : Int)) := by
  have : i = 0 ∨ i = 1 ∨ i = 2 ∨ i = 3 ∨ i = 4 ∨ i = 5 ∨ i = 6 := by omega
  rcases this with rfl | rfl | rfl | rfl | rfl | rfl | rfl <;> rfl
theorem pw6 {i : Nat} (h : i < 6) : ([.int 1, .int 2, .int 4, .int 8, .int 16, .int 32] : List D)[i]? = some (.int ((2 ^ i : Nat) : Int)) := by
  have : i = 0 ∨ i = 1 ∨ i = 2 ∨ i = 3 ∨ i = 4 ∨ i = 5 := by omega
  rcases this with rfl | rfl | rfl | rfl | rfl | rfl <;> rfl
def otherN (t : Tr) (N : Nat) : List Int := (List.range t.nl).map (flipN t.ends N)
theorem otherN_len {t : Tr} {N : Nat} : (otherN t N).length = t.nl := by simp [otherN]
theorem otherN_win {t : Tr} {N : Nat} : win (otherN t N) t = fwin t N := by
  unfold win fwin
  refine evalT_cg t 0 0 fun i _ hi => ?_
  unfold lv otherN
  rw [List.getD_eq_getElem?_getD, List.getElem?_map, List.getElem?_range (by omega)]; rfl
def partsTo (t : Tr) (i : Nat) : List Nat := (List.range (i + 1)).filter fun N => decide (1 ≤ N ∧ fwin t N ≠ winO t)
theorem partsTo_snoc {t : Tr} {i : Nat} : partsTo t (i + 1) = partsTo t i ++ if fwin t (i + 1) ≠ winO t then [i + 1] else [] := by
  unfold partsTo
  rw [List.range_succ, List.filter_append]
  congr 1
  by_cases c : fwin t (i + 1) = winO t <;> simp [c]
theorem r_law_parting : ∀ ds M Q E, sp_law_parting ds M Q E → t_law_parting K A (ends Q E) (dstart N_law_parting ds) M := by
  rintro ds M Q E ⟨a, b, t, rfl, na, hb, g, h6, k⟩
  have sl : sizeLine = 16777216 := sizeLine_eq
  have le : t.ends.length = t.nl := rfl
  have hp6 := pow6 h6
  have hp1 := Nat.one_le_two_pow (n := t.nl)
  unfold t_law_parting N_law_parting
  simp only [dstart, List.map, List.length_cons, List.length_nil, List.replicate, List.cons_append, List.nil_append]
  let pw : List D := [.int 1, .int 2, .int 4, .int 8, .int 16, .int 32, .int 64]
  refine seq_split (fun τ M' => ∃ p, M p = none ∧ M' = put M p (.lst pw) ∧ τ = [some (.ref a), some (lchD (t.root 0 0)), some (.ref b), some (.ref p), none, none, none, none, none]) ?_ ?_
  rotate_left
  · intro nx hnx
    walk_at "dl"
    exact ⟨by omega, fun p hp => hnx _ _ ⟨p, hp, rfl, rfl⟩⟩
  rintro τ M1 ⟨p, hp, rfl, rfl⟩
  have s1 : Sub M (put M p (.lst pw)) := Sub.refl.put hp
  have m1 : (put M p (.lst pw)) p = some (.lst pw) := put_same
  generalize put M p (.lst pw) = M1 at s1 m1
  refine seq_split (fun τ M' => Sub M1 M' ∧ τ = [some (.ref a), some (lchD (t.root 0 0)), some (.ref b), some (.ref p), some (.int (winO t)), none, none, none, none]) ?_ ?_
  rotate_left
  · intro nx hnx
    walk_at "dl"
    refine ⟨a, b, t, _, rfl, na.sub s1, s1 _ _ hb, g, rfl, ends_bit g.1, fun q hq => ?_⟩
    have bq : b ≠ q := by rintro rfl; rw [s1 _ _ hb] at hq; cases hq
    have re := root_entI (t := t) (es := t.ends) rfl
    rw [win_O] at re
    exact lent re (sq_at put_same) (sq_at (by rw [put_ne bq]; exact s1 _ _ hb)) (hnx _ _ ⟨Sub.refl.put hq, rfl⟩)
  rintro τ M2 ⟨s2, rfl⟩
  have m2 := s2 _ _ m1
  have s12 := s1.trans s2
  refine seq_split (fun τ M' => ∃ f, M2 f = none ∧ M' = put M2 f (.lst []) ∧ τ = [some (.ref a), some (lchD (t.root 0 0)), some (.ref b), some (.ref p), some (.int (winO t)), some (.ref f), none, none, none]) ?_ ?_
  rotate_left
  · intro nx hnx
    walk_at "dl"
    exact ⟨by omega, fun f hf => hnx _ _ ⟨f, hf, rfl, rfl⟩⟩
  rintro τ M3 ⟨f, hf, rfl, rfl⟩
  refine seq_split (fun τ M' => Sub M2 M' ∧ M' f = some (.lst (natsD (parts t))) ∧ ∃ o6 o7 o8, τ = [some (.ref a), some (lchD (t.root 0 0)), some (.ref b), some (.ref p), some (.int (winO t)), some (.ref f), o6, o7, o8]) ?_ ?_
  rotate_left
  · intro nx hnx
    have sf : Sub M2 (put M2 f (.lst [])) := Sub.refl.put hf
    walk_at "dl"
    simp only [lenG_at (sf _ _ (s12 _ _ hb)), List.length_map, le, ixg_at (sf _ _ m2) (pw7 (show t.nl < 7 by omega))]
    refine ⟨⟨by omega, by omega, by omega, by omega⟩, by omega, ?_⟩
    rw [show (((2 ^ t.nl : Nat) : Int) - 1).toNat = 2 ^ t.nl - 1 by omega]
    refine dLoop_inv (fun i τ M' => Sub M2 M' ∧ M' f = some (.lst (natsD (partsTo t i))) ∧ ∃ o6 o7 o8, τ = [some (.ref a), some (lchD (t.root 0 0)), some (.ref b), some (.ref p), some (.int (winO t)), some (.ref f), o6, o7, o8]) (fun _ _ _ _ _ => trivial) ?_ ?_ ⟨sf, by rw [put_same]; simp [partsTo, natsD], none, none, none, rfl⟩
    · rintro i d τ M' nxt hd ⟨s, hL, o6, o7, o8, rfl⟩ hnx'
      obtain ⟨hi, rfl⟩ := rng_at hd
      have hb' := s _ _ (s12 _ _ hb)
      have hp' := s _ _ m2
      have eN : (1 : Int) + ((i : Nat) : Int) = ((i + 1 : Nat) : Int) := by omega
      refine seq_split (fun τ M'' => ∃ u, M' u = none ∧ M'' = put M' u (.lst ((otherN t (i + 1)).map D.int)) ∧ τ = [some (.ref a), some (lchD (t.root 0 0)), some (.ref b), some (.ref p), some (.int (winO t)), some (.ref f), some (.int ((i + 1 : Nat) : Int)), some (.ref u), o8]) ?_ ?_
      rotate_left
      · intro nx2 hnx2
        rw [eN]
        walk_at "dl"
        simp only [lenG_at hb', List.length_map, le]
        refine ⟨by omega, by omega, fun u hu => ?_⟩
        rw [Int.toNat_natCast]
        have ub : b ≠ u := by rintro rfl; rw [hb'] at hu; cases hu
        have up : p ≠ u := by rintro rfl; rw [hp'] at hu; cases hu
        refine dCL_map (xs := List.range t.nl) (fun l => D.int ((l : Nat) : Int)) (fun l => D.int (flipN t.ends (i + 1) l)) rfl (by simp; omega) (fun _ => trivial) (fun l hl ys k' h => ?_) (hnx2 _ _ ⟨u, hu, by unfold otherN; rw [List.map_map]; rfl, rfl⟩)
        have hl := List.mem_range.mp hl
        have j2 : (t.ends.map D.int)[l]? = some (.int (lv t.ends l)) := lv_at hl
        have hb3 : (put M' u (.lst ys)) b = some (.lst (t.ends.map D.int)) := by rw [put_ne ub]; exact hb'
        have hp3 : (put M' u (.lst ys)) p = some (.lst pw) := by rw [put_ne up]; exact hp'
        simp only [wipeD]
        walk_at "dl"
        simp only [ixg_at hb3 j2, ixg_at hp3 (pw7 (show l < 7 by omega)), addD_int]
        have hpl := pow6 (show l ≤ 6 by omega)
        have hpl1 := Nat.one_le_two_pow (n := l)
        refine ⟨⟨by omega, log_small (by omega)⟩, by omega, ?_⟩
        have : flipN t.ends (i + 1) l = (lv t.ends l + ((i + 1 : Nat) : Int) / ((2 ^ l : Nat) : Int)) % 2 := by unfold flipN; rw [Int.natCast_ediv]
        rw [this] at h
        exact h
      rintro τ M4 ⟨u, hu, rfl, rfl⟩
      have sU : Sub M' (put M' u (.lst ((otherN t (i + 1)).map D.int))) := Sub.refl.put hu
      generalize hM5 : put M' u (.lst ((otherN t (i + 1)).map D.int)) = M5 at sU
      have m5u : M5 u = some (.lst ((otherN t (i + 1)).map D.int)) := by rw [← hM5]; exact put_same
      clear hM5
      walk_at "dl"
      refine ⟨a, u, t, _, rfl, na.sub ((s12.trans s).trans sU), m5u, g, otherN_len, fun o ho => ?_, fun v hv => ?_⟩
      · obtain ⟨l, _, rfl⟩ := List.mem_map.mp ho
        exact flipN_bit
      · have uv : u ≠ v := by rintro rfl; rw [m5u] at hv; cases hv
        have fv : f ≠ v := by rintro rfl; rw [sU _ _ hL] at hv; cases hv
        have re := root_entI (t := t) (es := otherN t (i + 1)) otherN_len
        rw [otherN_win] at re
        refine lent re (sq_at put_same) (sq_at (by rw [put_ne uv]; exact m5u)) ?_
        have m6f : (put M5 v (.lst ((wins (otherN t (i + 1)) t).map D.int))) f = some (.lst (natsD (partsTo t i))) := by rw [put_ne fv]; exact sU _ _ hL
        simp only [neD_int]
        by_cases c : fwin t (i + 1) = winO t
        · simp only [c, decide_true, Bool.not_true, Bool.false_eq_true, if_false]
          refine hnx' _ _ ⟨(s.trans sU).put hv, ?_, _, _, _, rfl⟩
          rw [m6f, partsTo_snoc, if_neg (by simp [c]), List.append_nil]
        · simp only [c, decide_false, Bool.not_false, if_true, append_at m6f]
          have lf : (natsD (partsTo t i)).length ≤ i + 1 := by unfold natsD partsTo; rw [List.length_map]; exact Nat.le_trans (List.length_filter_le _ _) (by simp)
          refine ⟨by rw [metT_list m6f]; trivial, by omega, hnx' _ _ ⟨((s.trans sU).put hv).put2 hf, ?_, _, _, _, rfl⟩⟩
          rw [put_same, partsTo_snoc, if_pos c]
          unfold natsD
          rw [List.map_append]; rfl
    · rintro τ M' ⟨s, hL, h⟩
      rw [len_rng] at hL
      have : partsTo t (2 ^ t.nl - 1) = parts t := by unfold partsTo parts; rw [show 2 ^ t.nl - 1 + 1 = 2 ^ t.nl by omega]
      rw [this] at hL
      exact hnx _ _ ⟨s, hL, h⟩
  rintro τ M4 ⟨s4, h4, o6, o7, o8, rfl⟩
  walk_at "dl"
  exact dropQ_of (k f (s12.none hf)) (put_sub (s12.trans s4) h4)
theorem bitAnd_nat {x y : Nat} : Builtin.bitAnd ((x : Nat) : Int) ((y : Nat) : Int) = ((x &&& y : Nat) : Int) := by
  unfold Builtin.bitAnd
  simp
theorem sum_mask : ∀ {c : List Nat}, (c.map fun n => ((2 ^ n : Nat) : Int)).sum = ((maskN c : Nat) : Int)
  | [] => rfl
  | a :: r => by
    have := sum_mask (c := r)
    unfold maskN at this ⊢
    rw [List.map_cons, List.sum_cons, List.map_cons, List.sum_cons, this, Int.natCast_add]
theorem r_law_certifies : ∀ ds M Q E, sp_law_certifies ds M Q E → t_law_certifies K A (ends Q E) (dstart N_law_certifies ds) M := by
  rintro ds M Q E ⟨t, c, p, rfl, hp, asc, rng, h6, wt, k⟩
  have sl : sizeLine = 16777216 := sizeLine_eq
  have lc := asc_len (l := 0) (n := t.nl) asc fun x hx => by have := rng x hx; omega
  unfold t_law_certifies N_law_certifies
  simp only [dstart, List.map, List.length_cons, List.length_nil, List.replicate, List.cons_append, List.nil_append]
  let pw : List D := [.int 1, .int 2, .int 4, .int 8, .int 16, .int 32]
  refine seq_split (fun τ M' => Sub M M' ∧ ∃ q, M' q = some (.lst pw) ∧ τ = [some (lotD c), some (.ref p), some (.ref q), none, none, none]) ?_ ?_
  rotate_left
  · intro nx hnx
    walk_at "dl"
    exact ⟨by omega, fun q hq => hnx _ _ ⟨Sub.refl.put hq, q, put_same, rfl⟩⟩
  rintro τ M1 ⟨s1, q, hq, rfl⟩
  refine seq_split (fun τ M' => Sub M M' ∧ τ = [some (lotD c), some (.ref p), some (.ref q), some (.int ((maskN c : Nat) : Int)), none, none]) ?_ ?_
  rotate_left
  · intro nx hnx
    walk_at "dl"
    simp only [lotD, itemsOf, keepOf]
    intro u hu
    have qu : q ≠ u := by rintro rfl; rw [hq] at hu; cases hu
    refine dCL_map (xs := c) (fun n => D.int ((n : Nat) : Int)) (fun n => D.int ((2 ^ n : Nat) : Int)) rfl (by omega) (fun _ => trivial) (fun n hn ys k' h => ?_) ?_
    · have := rng n hn
      simp only [wipeD]
      walk_at "dl"
      simp only [ixg_at (show (put M1 u (.lst ys)) q = _ by rw [put_ne qu]; exact hq) (pw6 (show n < 6 by omega))]
      exact h
    · have e : (c.map fun n => D.int ((2 ^ n : Nat) : Int)) = ((c.map fun n => ((2 ^ n : Nat) : Int)).map D.int) := by rw [List.map_map]; rfl
      simp only [sumG, seqOf_lst put_same]
      rw [e]
      simp only [Option.bind_some, intsOf_map]
      have e2 : (c.map fun n => ((2 ^ n : Nat) : Int)).sum = ((maskN c : Nat) : Int) := sum_mask
      rw [e2]
      exact hnx _ _ ⟨s1.put hu, rfl⟩
  rintro τ M2 ⟨s2, rfl⟩
  have hp2 := s2 _ _ hp
  walk_at "dl"
  simp only [itemsOf, keepOf, seqOf_lst hp2]
  intro u hu
  have pu : p ≠ u := by rintro rfl; rw [hp2] at hu; cases hu
  have lp : (parts t).length ≤ 64 := by
    have := pow6 h6
    unfold parts
    refine Nat.le_trans (List.length_filter_le _ _) (by simpa using this)
  refine dCL_map (xs := parts t) (fun n => D.int ((n : Nat) : Int)) (fun n => D.bl (decide (0 < n &&& maskN c))) rfl (by omega) (fun ys => seqOf_lst (by rw [put_ne pu]; exact hp2)) (fun n hn ys k' h => ?_) ?_
  · simp only [wipeD]
    walk_at "dl"
    rw [bitAnd_nat]
    have : (decide ((0 : Int) < ((n &&& maskN c : Nat) : Int))) = decide (0 < n &&& maskN c) := by
      congr 1
      simp only [eq_iff_iff]; omega
    rw [this]
    exact h
  · have e : ((parts t).map fun n => D.bl (decide (0 < n &&& maskN c))) = ((parts t).map fun n => decide (0 < n &&& maskN c)).map D.bl := by rw [List.map_map]; rfl
    rw [e, all_put]
    have e3 : (((parts t).map fun n => decide (0 < n &&& maskN c)).all id) = decide (certO t (lotI c) = some (winO t)) := by
      rw [Bool.eq_iff_iff, List.all_eq_true, decide_eq_true_eq, ← cert_parts wt asc rng]
      constructor
      · intro h N hN
        have := h _ (List.mem_map.mpr ⟨N, hN, rfl⟩)
        simpa using this
      · intro h b hb
        obtain ⟨N, hN, rfl⟩ := List.mem_map.mp hb
        simpa using h N hN
    rw [e3]
    exact dropQ_of k (s2.put hu)
end K44

set_option maxHeartbeats 4000000
namespace K44
open PySem L2 DL DU
local macro_rules | `(tactic| walk_at "dl") => `(tactic| simp only [dSeq, dIfS, dB, dTru, truD, dOp, dVar, dC, dAsg, dAug, dCB, dCons, dNil, dRet, dRetN, dName, dGSub, dNext, ends, exOf, dstart, slot, oI0, oI, dAnd, dOr, dNot, dAndV, dOrV, dNotV, dNeg, dSl, dNoP, dPart, dFld, dFldS, dRaise, dLst, dTup, dFor, dIter, dRng1, dRng2, dCall, dMake, dMeth, dIxO, dLc, dYes, dGTup, dGCons, dGNil, dDrop, dBreak, dBM, dDIn, dNever, dChain, dRngD, dZip, dRaiseI, dLstRg, dDGet, dDGet2, dDNew, dGSubD, dDStar,
  eqD_str, neD_str, eqD_int, neD_int, ixG_t0, ixG_t1, isiG_str, isi_int, isi_int_s, isi_int_t, isi_tup, isi_tup_s, isi_tup_i, isi_str_i, isi_str_t, lenG_tup, addD_int, mulD_int, intG, List.nil_append, bne_iff_ne, ofS_inj, Bool.false_bne, Bool.true_bne,
  List.map, List.length_cons, List.length_nil, List.cons_append, List.append_nil, List.replicate, List.set, List.getElem?_cons_zero, List.getElem?_cons_succ, Option.join_some, Option.bind_some, decide_eq_true_eq])
local macro_rules | `(tactic| walk_at "so") => `(tactic| first | omega | (simp; done) | (simp; omega))
variable {K : PySem.W.Frag} {A : Adr} {w : World} {mg : Str → Option Value}
set_option maxHeartbeats 4000000
/-- the loop's choice: the first of the least -/
theorem take_first {cs : List (List Nat)} {C : List Nat} (P : List Nat → Bool) (lex : cs.Pairwise lexlt) (hC : C ∈ cs) (pC : P C = true) (h : ∀ d, d ∈ cs → P d = true → Below C d) : bestL none (cs.filter P) = some C := by
  have hm : C ∈ cs.filter P := List.mem_filter.mpr ⟨hC, pC⟩
  obtain ⟨i, hi, ei⟩ := List.getElem_of_mem hm
  have gi := List.getElem?_eq_getElem hi
  rw [ei] at gi
  refine bestL_first gi (fun j y hj => ?_) (fun j y hj hy => ?_) (fun _ h => by cases h)
  · obtain ⟨a, b⟩ := List.mem_filter.mp (List.mem_of_getElem? hj)
    exact (h y a b).1
  · obtain ⟨a, b⟩ := List.mem_filter.mp (List.mem_of_getElem? hy)
    have hb := h y a b
    rcases Nat.lt_or_ge C.length y.length with q | q
    · exact q
    · exfalso
      have eq : C.length = y.length := by have := hb.1; omega
      obtain ⟨hj', ej⟩ := List.getElem?_eq_some_iff.mp hy
      have lx := List.pairwise_iff_getElem.mp (lex.filter P) j i hj' hi hj
      rw [ei, ej] at lx
      rcases hb.2 eq with e | e
      · rw [e] at lx; exact lexlt_irr lx
      · exact lexlt_irr (lexlt_trans lx e)
theorem best_take {P : List Nat → Bool} {cs : List (List Nat)} {i : Nat} {c : List Nat} (h : cs[i]? = some c) : bestL none ((cs.take (i + 1)).filter P) = if P c = true ∧ (∀ d, bestL none ((cs.take i).filter P) = some d → c.length < d.length) then some c else bestL none ((cs.take i).filter P) := by
  rw [List.take_add_one, h, List.filter_append]
  by_cases q : P c = true
  · have : [c].filter P = [c] := by simp [q]
    rw [show (some c : Option (List Nat)).toList = [c] from rfl, this, bestL_snoc]
    by_cases q2 : ∀ d, bestL none ((cs.take i).filter P) = some d → c.length < d.length
    · rw [if_pos q2, if_pos ⟨q, q2⟩]
    · rw [if_neg q2, if_neg fun z => q2 z.2]
  · have : [c].filter P = [] := by simp [q]
    rw [show (some c : Option (List Nat)).toList = [c] from rfl, this, List.append_nil, if_neg fun z => q z.1]
theorem r_law_small (T : Txt w K mg A) : ∀ ds M Q E, sp_law_small A ds M Q E → t_law_small K A (ends Q E) (dstart N_law_small ds) M := by
  rintro ds M Q E ⟨d, a, b, t, rfl, hd, na, hb, g, h6, k⟩
  have sl : sizeLine = 16777216 := sizeLine_eq
  have le : t.ends.length = t.nl := rfl
  have hp6 := pow6 h6
  let P : List Nat → Bool := fun c => decide (certO t (lotI c) = some (winO t))
  let cs := lotsL t.nl 0
  have csm : ∀ c, c ∈ cs → c.Pairwise (· < ·) ∧ ∀ x, x ∈ c → x < t.nl := fun c hc => by
    obtain ⟨h1, h2⟩ := lots_mem.mp hc
    exact ⟨h1, fun x hx => by have := h2 x hx; omega⟩
  have hC : (cO t 0).2 ∈ cs := lots_mem.mpr ⟨cO_asc _ t 0 (Nat.le_refl _), cO_in _ t 0 (Nat.le_refl _)⟩
  have hbest : bestL none (cs.filter P) = some (cO t 0).2 := take_first P lots_lex hC (by simpa [P] using cert_holds) fun d hd hp => by
    obtain ⟨h1, h2⟩ := csm d hd
    exact cert_first g.1 h1 h2 (by simpa [P] using hp)
  have cval : ∀ c, c ∈ cs → certO t (lotI c) = if P c = true then some (winO t) else none := fun c hc => by
    by_cases q : certO t (lotI c) = some (winO t)
    · rw [if_pos (by simpa [P] using q), q]
    · rw [if_neg (by simpa [P] using q)]
      cases e : certO t (lotI c) with
      | none => rfl
      | some o =>
        have := cert_stays (es := t.ends) g.1 e fun _ _ => rfl
        rw [win_O] at this
        exact (q (by rw [e, this])).elim
  have clen : ∀ c, c ∈ cs → c.length ≤ 6 := fun c hc => by
    obtain ⟨h1, h2⟩ := csm c hc
    have := asc_len (l := 0) (n := t.nl) h1 fun x hx => by have := h2 x hx; omega
    omega
  have lcs : cs.length ≤ 64 := by show (lotsL t.nl 0).length ≤ 64; rw [lotsL_len]; exact hp6
  unfold t_law_small N_law_small
  simp only [dstart, List.map, List.length_cons, List.length_nil, List.replicate, List.cons_append, List.nil_append]
  refine seq_split (fun τ M' => Sub M M' ∧ τ = [some (.ref d), some (.ref a), some (lchD (t.root 0 0)), some (.ref b), some (.int (winO t)), none, none, none, none, none, none]) ?_ ?_
  rotate_left
  · intro nx hnx
    walk_at "dl"
    refine ⟨a, b, t, _, rfl, na, hb, g, rfl, ends_bit g.1, fun q hq => ?_⟩
    have bq : b ≠ q := by rintro rfl; rw [hb] at hq; cases hq
    have re := root_entI (t := t) (es := t.ends) rfl
    rw [win_O] at re
    exact lent re (sq_at put_same) (sq_at (by rw [put_ne bq]; exact hb)) (hnx _ _ ⟨Sub.refl.put hq, rfl⟩)
  rintro τ M1 ⟨s1, rfl⟩
  refine seq_split (fun τ M' => Sub M M' ∧ ∃ p, M' p = some (.lst (natsD (parts t))) ∧ τ = [some (.ref d), some (.ref a), some (lchD (t.root 0 0)), some (.ref b), some (.int (winO t)), some (.ref p), none, none, none, none, none]) ?_ ?_
  rotate_left
  · intro nx hnx
    walk_at "dl"
    exact ⟨a, b, t, rfl, na.sub s1, s1 _ _ hb, g, h6, fun p hp => hnx _ _ ⟨s1.put hp, p, put_same, rfl⟩⟩
  rintro τ M2 ⟨s2, p, hp, rfl⟩
  refine seq_split (fun τ M' => M2 = M' ∧ τ = [some (.ref d), some (.ref a), some (lchD (t.root 0 0)), some (.ref b), some (.int (winO t)), some (.ref p), some .non, none, none, none, none]) ?_ ?_
  rotate_left
  · intro nx hnx
    walk_at "dl"
    exact hnx _ _ ⟨rfl, rfl⟩
  rintro τ M3 ⟨rfl, rfl⟩
  refine seq_split (fun τ M' => Sub M M' ∧ M' p = some (.lst (natsD (parts t))) ∧ ∃ o7 o8, τ = [some (.ref d), some (.ref a), some (lchD (t.root 0 0)), some (.ref b), some (.int (winO t)), some (.ref p), some (lotD (cO t 0).2), o7, o8, none, none]) ?_ ?_
  rotate_left
  · intro nx hnx
    walk_at "dl"
    simp only [lenG_at (s2 _ _ hb), List.length_map, le]
    refine ⟨0, t.nl, by simp, by omega, h6, by omega, fun q hq => ?_⟩
    have qp : p ≠ q := by rintro rfl; rw [hp] at hq; cases hq
    simp only [itemsOf, keepOf, seqOf_lst put_same]
    refine dLoop_inv (fun i τ M' => Sub M M' ∧ M' p = some (.lst (natsD (parts t))) ∧ M' q = some (.lst (cs.map lotD)) ∧ ∃ o7 o8, τ = [some (.ref d), some (.ref a), some (lchD (t.root 0 0)), some (.ref b), some (.int (winO t)), some (.ref p), some (oD (bestL none ((cs.take i).filter P))), o7, o8, none, none]) (fun i τ M' _ h => seqOf_lst h.2.2.1) ?_ ?_ ⟨s2.put hq, by rw [put_ne qp]; exact hp, put_same, none, none, by simp [bestL, oD]⟩
    · rintro i dd τ M' nxt hdd ⟨sM, hp', hq', o7, o8, rfl⟩ hnx'
      rw [List.getElem?_map] at hdd
      cases ei : cs[i]? with
      | none => rw [ei] at hdd; cases hdd
      | some c =>
        rw [ei] at hdd
        have : dd = lotD c := by simpa using hdd.symm
        subst this
        have hc := List.mem_of_getElem? ei
        obtain ⟨asc, rng⟩ := csm c hc
        have lc := clen c hc
        have bt := best_take (P := P) ei
        refine seq_split (fun τ M'' => M' = M'' ∧ τ = [some (.ref d), some (.ref a), some (lchD (t.root 0 0)), some (.ref b), some (.int (winO t)), some (.ref p), some (oD (bestL none ((cs.take i).filter P))), some (lotD c), some .non, none, none]) ?_ ?_
        rotate_left
        · intro nx2 hnx2
          walk_at "dl"
          exact hnx2 _ _ ⟨rfl, rfl⟩
        rintro τ M4 ⟨rfl, rfl⟩
        refine seq_split (fun τ M'' => M' = M'' ∧ τ = [some (.ref d), some (.ref a), some (lchD (t.root 0 0)), some (.ref b), some (.int (winO t)), some (.ref p), some (oD (bestL none ((cs.take (i + 1)).filter P))), some (lotD c), some (plD (certO t (lotI c))), none, none]) ?_ ?_
        rotate_left
        · intro nx2 hnx2
          rw [cval c hc] at hnx2
          refine ifS_p (P c = true) (fun Q' E' q1 q2 => ?_) (fun q => ?_) fun q => ?_
          · walk_at "dl"
            refine ⟨t, c, p, rfl, hp', asc, rng, h6, g.1, ?_⟩
            by_cases q : certO t (lotI c) = some (winO t)
            · simp only [q, decide_true]; exact q1 (by simpa [P] using q)
            · simp only [q, decide_false]; exact q2 (by simpa [P] using q)
          · rw [if_pos q] at hnx2
            refine seq_split (fun τ M'' => M' = M'' ∧ τ = [some (.ref d), some (.ref a), some (lchD (t.root 0 0)), some (.ref b), some (.int (winO t)), some (.ref p), some (oD (bestL none ((cs.take i).filter P))), some (lotD c), some (.int (winO t)), none, none]) ?_ ?_
            rotate_left
            · intro nx3 hnx3
              walk_at "dl"
              exact hnx3 _ _ ⟨rfl, rfl⟩
            rintro τ M5 ⟨rfl, rfl⟩
            cases eb : bestL none ((cs.take i).filter P) with
            | none =>
              rw [eb, if_pos ⟨q, fun _ h => by cases h⟩] at bt
              rw [bt] at hnx2
              simp only [oD]
              walk_at "dl"
              simp only [isG, isNone, Bool.false_bne, if_true]
              exact hnx2 _ _ ⟨rfl, rfl⟩
            | some d' =>
              rw [eb] at bt
              simp only [oD]
              walk_at "dl"
              simp only [isG, lotD, isNone, Bool.false_bne, Bool.false_eq_true, if_false]
              have e1 : ∀ x : List Nat, D.tup (x.map fun n => D.int ((n : Nat) : Int)) = lotD x := fun _ => rfl
              simp only [e1, lotD_len]
              by_cases q2 : c.length < d'.length
              · have q2' : ((c.length : Nat) : Int) < ((d'.length : Nat) : Int) := by omega
                rw [if_pos ⟨q, fun _ h => by cases h; exact q2⟩] at bt
                rw [bt] at hnx2
                simp only [q2', decide_true, if_true]
                exact hnx2 _ _ ⟨rfl, rfl⟩
              · have q2' : ¬ ((c.length : Nat) : Int) < ((d'.length : Nat) : Int) := by omega
                rw [if_neg fun z => q2 (z.2 d' rfl)] at bt
                rw [bt] at hnx2
                simp only [q2', decide_false, Bool.false_eq_true, if_false]
                exact hnx2 _ _ ⟨rfl, rfl⟩
          · rw [if_neg q] at hnx2
            rw [if_neg fun z => q z.1] at bt
            rw [bt] at hnx2
            walk_at "dl"
            exact hnx2 _ _ ⟨rfl, rfl⟩
        rintro τ M5 ⟨rfl, rfl⟩
        walk_at "dl"
        rw [lotD_I]
        refine cert_ok (by unfold DuelAt at hd ⊢; exact sM _ _ hd) g (by rw [lotI_len]; omega) (asc_ok asc rng) rfl (same_ok okS_pl ?_)
        simp only [Bool.not_true, Bool.false_eq_true, if_false]
        exact hnx' _ _ ⟨sM, hp', hq', _, _, rfl⟩
    · rintro τ M' ⟨sM, hp', hq', o7, o8, rfl⟩
      rw [List.length_map, List.take_length, hbest]
      exact hnx _ _ ⟨sM, hp', o7, o8, rfl⟩
  rintro τ M4 ⟨s4, hp4, o7, o8, rfl⟩
  have hd4 : DuelAt A.Duel M4 d t := by unfold DuelAt at hd ⊢; exact s4 _ _ hd
  have lC := clen _ hC
  refine seq_split (fun τ M' => M4 = M' ∧ τ = [some (.ref d), some (.ref a), some (lchD (t.root 0 0)), some (.ref b), some (.int (winO t)), some (.ref p), some (lotD (cO t 0).2), o7, o8, none, none]) ?_ ?_
  rotate_left
  · intro nx hnx
    walk_at "dl"
    refine ⟨d, t, rfl, hd4, g, same_ok (okS_lot (by omega)) ?_⟩
    simp only [Bool.not_true, Bool.false_eq_true, if_false]
    exact hnx _ _ ⟨rfl, rfl⟩
  rintro τ M5 ⟨rfl, rfl⟩
  refine seq_split (fun τ M' => Sub M4 M' ∧ ∃ o10, τ = [some (.ref d), some (.ref a), some (lchD (t.root 0 0)), some (.ref b), some (.int (winO t)), some (.ref p), some (lotD (cO t 0).2), o7, o8, some (lotD (pivs t)), o10]) ?_ ?_
  rotate_left
  · intro nx hnx
    walk_at "dl"
    simp only [lenG_at (s4 _ _ hb), List.length_map, le]
    refine ⟨by omega, by omega, fun u hu => ?_⟩
    rw [Int.toNat_natCast]
    have pu : p ≠ u := by rintro rfl; rw [hp4] at hu; cases hu
    refine dCL_inv (fun i M' => Sub M4 M' ∧ M' u = some (.lst (((List.range i).filter (piv t)).map fun n => D.int ((n : Nat) : Int)))) (fun _ _ _ _ => trivial) ?_ ?_ ⟨Sub.refl.put hu, by rw [put_same]; rfl⟩
    · rintro i dd M' nxt hdd ⟨sM, hL⟩ hn
      obtain ⟨hi, rfl⟩ := rng_at hdd
      have hp' := sM _ _ hp4
      simp only [wipeD]
      walk_at "dl"
      refine ⟨by omega, fun v hv => ?_⟩
      have pv : p ≠ v := by rintro rfl; rw [hp'] at hv; cases hv
      have uv : u ≠ v := by rintro rfl; rw [hL] at hv; cases hv
      rw [ixg_at put_same (pw6 (show i < 6 by omega))]
      have hp2 : (put M' v (.lst [.int 1, .int 2, .int 4, .int 8, .int 16, .int 32])) p = some (.lst (((parts t).map fun n => ((n : Nat) : Int)).map D.int)) := by rw [put_ne pv, hp']; unfold natsD; rw [List.map_map]; rfl
      rw [inG_ints hp2]
      have em : (((2 ^ i : Nat) : Int) ∈ (parts t).map fun n => ((n : Nat) : Int)) ↔ piv t i = true := by
        rw [← piv_parts g.1 hi]
        constructor
        · intro h
          obtain ⟨n, hn, e⟩ := List.mem_map.mp h
          have : n = 2 ^ i := by omega
          rw [← this]; exact hn
        · intro h; exact List.mem_map.mpr ⟨_, h, rfl⟩
      simp only [Bool.false_bne, em]
      by_cases c : piv t i = true
      · simp only [c, decide_true, if_true]
        have hL2 : (put M' v (.lst [.int 1, .int 2, .int 4, .int 8, .int 16, .int 32])) u = some (.lst (((List.range i).filter (piv t)).map fun n => D.int ((n : Nat) : Int))) := by rw [put_ne uv]; exact hL
        simp only [hL2]
        refine ⟨by have := filt_len (p := piv t) (n := i); rw [nats_len]; omega, hn _ ⟨(sM.put hv).put2 hu, ?_⟩⟩
        rw [put_same, pivs_snoc, if_pos c, List.map_append]; rfl
      · simp only [c, decide_false, Bool.false_eq_true, if_false]
        refine hn _ ⟨sM.put hv, ?_⟩
        rw [put_ne uv, hL, pivs_snoc, if_neg c, List.append_nil]
    · rintro M' ⟨sM, hL⟩
      rw [len_rng] at hL
      simp only [tupG, seqOf_lst hL]
      exact hnx _ _ ⟨sM, _, rfl⟩
  rintro τ M6 ⟨s6, o10, rfl⟩
  walk_at "dl"
  refine ⟨d, t, rfl, by unfold DuelAt at hd4 ⊢; exact s6 _ _ hd4, g, same_ok (okS_lot (by have := filt_len (p := piv t) (n := t.nl); unfold pivs; omega)) (dropQ_of k (s4.trans s6))⟩
end K44

set_option maxHeartbeats 4000000
namespace K44
open PySem L2 DL DU
local macro_rules | `(tactic| walk_at "dl") => `(tactic| simp only [dSeq, dIfS, dB, dTru, truD, dOp, dVar, dC, dAsg, dAug, dCB, dCons, dNil, dRet, dRetN, dName, dGSub, dNext, ends, exOf, dstart, slot, oI0, oI, dAnd, dOr, dNot, dAndV, dOrV, dNotV, dNeg, dSl, dNoP, dPart, dFld, dFldS, dRaise, dLst, dTup, dFor, dIter, dRng1, dRng2, dCall, dMake, dMeth, dIxO, dLc, dYes, dGTup, dGCons, dGNil, dDrop, dBreak, dBM, dDIn, dNever, dChain, dRngD, dZip, dRaiseI, dLstRg, dDGet, dDGet2, dDNew, dGSubD, dDStar,
  eqD_str, neD_str, eqD_int, neD_int, ixG_t0, ixG_t1, isiG_str, isi_int, isi_int_s, isi_int_t, isi_tup, isi_tup_s, isi_tup_i, isi_str_i, isi_str_t, lenG_tup, addD_int, mulD_int, intG, List.nil_append, bne_iff_ne, ofS_inj, Bool.false_bne, Bool.true_bne,
  List.map, List.length_cons, List.length_nil, List.cons_append, List.append_nil, List.replicate, List.set, List.getElem?_cons_zero, List.getElem?_cons_succ, Option.join_some, Option.bind_some, decide_eq_true_eq])
local macro_rules | `(tactic| walk_at "so") => `(tactic| first | omega | (simp; done) | (simp; omega))
variable {K : PySem.W.Frag} {A : Adr} {w : World} {mg : Str → Option Value}
theorem parts {ts : List Tr} {i : Nat} {t : Tr} (h : ts[i]? = some t) : ts = ts.take i ++ t :: ts.drop (i + 1) := by
  have hi := (List.getElem?_eq_some_iff.mp h).1
  have e : ts[i] = t := (List.getElem?_eq_some_iff.mp h).2
  conv => lhs; rw [← List.take_append_drop i ts, List.drop_eq_getElem_cons hi, e]
theorem sides_sub {ts : List Tr} {i j : Nat} {t : Tr} {s : Int} (h : ts[i]? = some t) (hs : t.sides[j]? = some s) : (sidesL ts)[nnL (ts.take i) + j]? = some s := by
  have e := parts h
  have : sidesL ts = sidesL (ts.take i) ++ (t.sides ++ sidesL (ts.drop (i + 1))) := by conv => lhs; rw [e, sidesL_app, sidesL]
  rw [this, List.getElem?_append_right (by unfold nnL; omega), show nnL (ts.take i) + j - (sidesL (ts.take i)).length = j by unfold nnL; omega, List.getElem?_append_left (List.getElem?_eq_some_iff.mp hs).1]
  exact hs
theorem kids_sub {ts : List Tr} {i j n l : Nat} {t : Tr} {k : List Ch} (h : ts[i]? = some t) (hs : (t.kids (n + nnL (ts.take i)) (l + nlL (ts.take i)))[j]? = some k) : (kidsL ts n l)[nnL (ts.take i) + j]? = some k := by
  have e := parts h
  have : kidsL ts n l = kidsL (ts.take i) n l ++ (t.kids (n + nnL (ts.take i)) (l + nlL (ts.take i)) ++ kidsL (ts.drop (i + 1)) (n + nnL (ts.take i) + t.nn) (l + nlL (ts.take i) + t.nl)) := by conv => lhs; rw [e, kidsL_app, kidsL]
  rw [this, List.getElem?_append_right (by rw [kidsL_len]; omega), show nnL (ts.take i) + j - (kidsL (ts.take i) n l).length = j by rw [kidsL_len]; omega, List.getElem?_append_left (List.getElem?_eq_some_iff.mp hs).1]
  exact hs
theorem roots_at {ts : List Tr} {i n l : Nat} {t : Tr} (h : ts[i]? = some t) : (roots ts n l)[i]? = some (t.root (n + nnL (ts.take i)) (l + nlL (ts.take i))) := by
  have e := parts h
  have hi := (List.getElem?_eq_some_iff.mp h).1
  have e2 : (roots (ts.take i) n l).length = i := by rw [roots_len, List.length_take]; omega
  have : roots ts n l = roots (ts.take i) n l ++ (t.root (n + nnL (ts.take i)) (l + nlL (ts.take i)) :: roots (ts.drop (i + 1)) (n + nnL (ts.take i) + t.nn) (l + nlL (ts.take i) + t.nl)) := by conv => lhs; rw [e, roots_app, roots]
  rw [this, List.getElem?_append_right (by omega), e2, Nat.sub_self]; rfl
set_option maxHeartbeats 4000000
theorem valsL_sub {α : Type} {f : Nat → Int → List α → α} {g : Nat → α} : ∀ {ts : List Tr} {i n l j : Nat} {t : Tr} {x : α}, ts[i]? = some t → (valsT f g t (n + nnL (ts.take i)) (l + nlL (ts.take i)))[j]? = some x → (valsL f g ts n l)[nnL (ts.take i) + j]? = some x
  | [], i, n, l, j, t, x, h, _ => by simp at h
  | u :: ts, 0, n, l, j, t, x, h, hx => by
    simp only [List.getElem?_cons_zero, Option.some.injEq] at h
    subst h
    rw [List.take_zero, nnL_nil, nlL_nil, Nat.add_zero, Nat.add_zero] at hx
    rw [List.take_zero, nnL_nil, Nat.zero_add, valsL, List.getElem?_append_left (List.getElem?_eq_some_iff.mp hx).1]
    exact hx
  | u :: ts, i + 1, n, l, j, t, x, h, hx => by
    simp only [List.getElem?_cons_succ] at h
    rw [List.take_succ_cons, nnL_cons, nlL_cons, ← Nat.add_assoc, ← Nat.add_assoc] at hx
    have := valsL_sub h hx
    rw [List.take_succ_cons, nnL_cons, valsL, List.getElem?_append_right (by rw [vals_len]; omega), vals_len, show u.nn + nnL (ts.take i) + j - u.nn = nnL (ts.take i) + j by omega]
    exact this
theorem endsL_sub : ∀ {ts : List Tr} {i j : Nat} {t : Tr}, ts[i]? = some t → j < t.nl → lv (endsL ts) (nlL (ts.take i) + j) = lv t.ends j
  | [], i, j, t, h, _ => by simp at h
  | u :: ts, 0, j, t, h, hj => by
    simp only [List.getElem?_cons_zero, Option.some.injEq] at h
    subst h
    rw [List.take_zero, nlL_nil, Nat.zero_add, endsL, lv_app_l hj]
  | u :: ts, i + 1, j, t, h, hj => by
    simp only [List.getElem?_cons_succ] at h
    rw [List.take_succ_cons, nlL_cons, endsL, Nat.add_assoc, show u.nl = u.ends.length from rfl, lv_app_r]
    exact endsL_sub h hj
theorem child_at {ws es : List Int} {t : Tr} {n l : Nat} (hv : ∀ j x, (valsT wrule (lv es) t n l)[j]? = some x → ws[n + j]? = some x) (he : l + t.nl ≤ es.length) : valC (es.map D.int) (ws.map D.int) (.int (evalT wrule (lv es) t n l)) (t.root n l) := by
  cases t with
  | lf o => rw [nl_lf] at he; rw [evalT]; exact lv_at (by omega)
  | nd s ts =>
    have := hv 0 (evalT wrule (lv es) (.nd s ts) n l) (by simp [valsT, evalT])
    rw [Nat.add_zero] at this
    show (ws.map D.int)[n]? = _
    rw [List.getElem?_map, this]; rfl
theorem win_at {es : List Int} {t : Tr} {n l : Nat} (h : ∀ i, i < t.nl → lv es (l + i) = lv t.ends i) : evalT wrule (lv es) t n l = winO t := by
  rw [show lv es = fun i => (fun _ o => o) i (lv es i) from rfl, evalO_T (g := fun _ o => o) noN_wrule t n l h, winO_off]
def pk (ts : List Tr) (k : Nat) : List Nat := (pivs (pg ts k)).map (nlL (ts.take k) + ·)
theorem pivs_len {t : Tr} : (pivs t).length ≤ t.nl := filt_len
theorem r_law_deciding {n : Nat} : ∀ ds M Q E, sp_law_deciding (n + 1) ds M Q E → t_law_deciding K A n (ends Q E) (dstart N_law_deciding ds) M := by
  rintro ds M Q E ⟨a, w, e, rs, ws, es, t, k0, l0, rfl, ha, hN, wt, hh, hw, he, hv, hlv, hle, hnl, k⟩
  have sl : sizeLine = 16777216 := sizeLine_eq
  unfold t_law_deciding N_law_deciding
  cases t with
  | lf o =>
    simp only [Tr.root, lchD]
    walk_at "dl"
    simp only [decide_true, if_true]
    have e1 : natsD ((pivs (.lf o)).map (l0 + ·)) = [.int (l0 : Nat)] := by
      have hp : piv (.lf o) 0 = true := by
        unfold piv winO
        rw [evalO, evalO]
        unfold flipAt
        have hb : bit o := by rw [Tr.wf] at wt; exact wt
        unfold bit at hb
        simp only [if_true, ne_eq, decide_not, Bool.not_eq_true', decide_eq_false_iff_not]
        omega
      unfold pivs natsD
      rw [nl_lf]
      simp [List.range_succ, hp]
    rw [e1] at k
    exact ⟨by omega, fun q hq => dropQ_of (k q hq) .refl⟩
  | nd s ts =>
    have lk := len_kid wt
    have wt' := wt
    simp only [Tr.wf] at wt'
    rw [nl_nd] at hle hnl
    obtain ⟨r, o, g1, g2, g3⟩ := hN 0 s (roots ts (k0 + 1) l0) (by simp [Tr.sides]) (by simp [Tr.kids])
    rw [Nat.add_zero] at g1
    have i1 : (rs.map D.ref)[k0]? = some (.ref r) := by rw [List.getElem?_map, g1]; rfl
    have kid : ∀ i t, ts[i]? = some t → (∀ j x, (valsT wrule (lv es) t (k0 + 1 + nnL (ts.take i)) (l0 + nlL (ts.take i)))[j]? = some x → ws[k0 + 1 + nnL (ts.take i) + j]? = some x) ∧ (∀ j, j < t.nl → lv es (l0 + nlL (ts.take i) + j) = lv t.ends j) ∧ l0 + nlL (ts.take i) + t.nl ≤ es.length := by
      intro i t ei
      have ho := off_le ei
      refine ⟨fun j x hx => ?_, fun j hj => ?_, by omega⟩
      · have := hv (nnL (ts.take i) + j + 1) x (by rw [valsT, List.getElem?_cons_succ]; exact valsL_sub ei hx)
        rw [← this]; congr 1; omega
      · have := hlv (nlL (ts.take i) + j) (by rw [nl_nd]; omega)
        rw [Nat.add_assoc, this, Tr.ends, endsL_sub ei hj]
    let wv := ts.map winO
    simp only [Tr.root, lchD]
    simp only [dstart, List.map, List.length_cons, List.length_nil, List.replicate, List.cons_append, List.nil_append]
    refine seq_split (fun τ M' => M = M' ∧ τ = [some (.ref a), some (.tup [.int 1, .int (k0 : Nat)]), some (.ref w), some (.ref e), none, none, none, none, none, none]) ?_ ?_
    rotate_left
    · intro nx hnx
      walk_at "dl"
      exact hnx _ _ ⟨rfl, rfl⟩
    rintro τ M1 ⟨rfl, rfl⟩
    refine seq_split (fun τ M' => M = M' ∧ τ = [some (.ref a), some (.tup [.int 1, .int (k0 : Nat)]), some (.ref w), some (.ref e), some (.int s), some (.ref o), none, none, none, none]) ?_ ?_
    rotate_left
    · intro nx hnx
      walk_at "dl"
      simp only [ixg_at ha i1, seqOf_lst g2]
      exact ⟨rfl, hnx _ _ ⟨rfl, rfl⟩⟩
    rintro τ M1 ⟨rfl, rfl⟩
    refine seq_split (fun τ M' => ∃ u, M u = none ∧ M' = put M u (.lst ((wv.map fun v => decide (v = s)).map D.bl)) ∧ τ = [some (.ref a), some (.tup [.int 1, .int (k0 : Nat)]), some (.ref w), some (.ref e), some (.int s), some (.ref o), some (.ref u), none, none, none]) ?_ ?_
    rotate_left
    · intro nx hnx
      walk_at "dl"
      simp only [itemsOf, keepOf, seqOf_lst g3]
      intro u hu
      have ou : o ≠ u := by rintro rfl; rw [g3] at hu; cases hu
      have wu : w ≠ u := by rintro rfl; rw [hw] at hu; cases hu
      have eu : e ≠ u := by rintro rfl; rw [he] at hu; cases hu
      refine dCL_pure D.bl (wv.map fun v => some (decide (v = s))) (by simp [wv, roots_len]) (by rw [List.length_map, roots_len]; omega) (fun ys => seqOf_lst (by rw [put_ne ou]; exact g3)) (fun i dn av ys k' k2 h1 h2 h3 h4 => ?_) ?_
      · rw [List.getElem?_map] at h1
        cases ec : (roots ts (k0 + 1) l0)[i]? with
        | none => rw [ec] at h1; cases h1
        | some c =>
          have hi : i < ts.length := by have := (List.getElem?_eq_some_iff.mp ec).1; rw [roots_len] at this; exact this
          have ei := List.getElem?_eq_getElem hi
          rw [roots_at ei] at ec
          have ec := Option.some.inj ec
          subst ec
          rw [roots_at ei] at h1
          have : dn = lchD (ts[i].root (k0 + 1 + nnL (ts.take i)) (l0 + nlL (ts.take i))) := by simpa using h1.symm
          subst this
          obtain ⟨kv, kl, ke⟩ := kid i _ ei
          have hca := child_at kv ke
          rw [win_at kl] at hca
          have : av = some (decide (winO ts[i] = s)) := by
            simp only [wv, List.getElem?_map, ei, Option.map_some, Option.some.injEq] at h2
            exact h2.symm
          simp only [wipeD, dYes, if_true]
          walk_at "dl"
          refine lent hca (sq_at (by rw [put_ne wu]; exact hw)) (sq_at (by rw [put_ne eu]; exact he)) ?_
          simp only [eqD_int]
          exact h3 _ this
      · have e2 : ((wv.map fun v => some (decide (v = s))).filterMap id) = wv.map fun v => decide (v = s) := by
          rw [List.filterMap_map]
          show List.filterMap (some ∘ fun v => decide (v = s)) wv = _
          rw [List.filterMap_eq_map]
        rw [e2]
        exact hnx _ _ ⟨u, hu, rfl, rfl⟩
    rintro τ M1 ⟨u, hu, rfl, rfl⟩
    have s1 : Sub M (put M u (.lst ((wv.map fun v => decide (v = s)).map D.bl))) := Sub.refl.put hu
    have m1 : (put M u (.lst ((wv.map fun v => decide (v = s)).map D.bl))) u = some (.lst ((wv.map fun v => decide (v = s)).map D.bl)) := put_same
    generalize put M u (.lst ((wv.map fun v => decide (v = s)).map D.bl)) = M1 at s1 m1
    refine seq_split (fun τ M' => ∃ f, M1 f = none ∧ M' = put M1 f (.lst []) ∧ τ = [some (.ref a), some (.tup [.int 1, .int (k0 : Nat)]), some (.ref w), some (.ref e), some (.int s), some (.ref o), some (.ref u), some (.ref f), none, none]) ?_ ?_
    rotate_left
    · intro nx hnx
      walk_at "dl"
      exact ⟨by omega, fun f hf => hnx _ _ ⟨f, hf, rfl, rfl⟩⟩
    rintro τ M2 ⟨f, hf, rfl, rfl⟩
    let ok := okD s wv
    let fd : Nat → List Nat := fun i => (((List.range i).filter ok).flatMap (pk ts)).map (l0 + ·)
    have fdlen : ∀ i, i ≤ ts.length → (fd i).length ≤ 200 := fun i hi => by
      show ((((List.range i).filter ok).flatMap (pk ts)).map (l0 + ·)).length ≤ 200
      rw [List.length_map]
      have h1 : (((List.range i).filter ok).flatMap (pk ts)).length ≤ (((List.range ts.length).filter ok).flatMap (pk ts)).length := by
        rw [show ts.length = i + (ts.length - i) by omega, List.range_add, List.filter_append, List.flatMap_append, List.length_append]; omega
      have h2 : ((List.range ts.length).filter ok).flatMap (pk ts) = pivs (.nd s ts) := (pivs_node wt).symm
      rw [h2] at h1
      have := pivs_len (t := .nd s ts)
      rw [nl_nd] at this; omega
    have fdsnoc : ∀ i, fd (i + 1) = fd i ++ if ok i = true then (pivs (pg ts i)).map (l0 + nlL (ts.take i) + ·) else [] := fun i => by
      show ((((List.range (i + 1)).filter ok).flatMap (pk ts)).map (l0 + ·)) = _
      rw [List.range_succ, List.filter_append, List.flatMap_append, List.map_append]
      congr 1
      by_cases q : ok i = true
      · rw [if_pos q]
        have : [i].filter ok = [i] := by simp [q]
        rw [this, List.flatMap_singleton]
        unfold pk
        rw [List.map_map]
        refine List.map_congr_left fun x _ => ?_
        show l0 + (nlL (ts.take i) + x) = _
        omega
      · rw [if_neg q]
        have : [i].filter ok = [] := by simp [q]
        rw [this]; rfl
    refine seq_split (fun τ M' => Sub M M' ∧ ∃ f' o8, M f' = none ∧ M' f' = some (.lst (natsD (fd ts.length))) ∧ τ = [some (.ref a), some (.tup [.int 1, .int (k0 : Nat)]), some (.ref w), some (.ref e), some (.int s), some (.ref o), some (.ref u), some (.ref f'), o8, none]) ?_ ?_
    rotate_left
    · intro nx hnx
      have sf : Sub M1 (put M1 f (.lst [])) := Sub.refl.put hf
      walk_at "dl"
      simp only [lenG_at (sf _ _ (s1 _ _ g3)), List.length_map, roots_len]
      refine ⟨by omega, by omega, ?_⟩
      rw [Int.toNat_natCast]
      refine dLoop_inv (fun i τ M' => Sub M1 M' ∧ ∃ f' o8, M f' = none ∧ M' f' = some (.lst (natsD (fd i))) ∧ τ = [some (.ref a), some (.tup [.int 1, .int (k0 : Nat)]), some (.ref w), some (.ref e), some (.int s), some (.ref o), some (.ref u), some (.ref f'), o8, none]) (fun _ _ _ _ _ => trivial) ?_ ?_ ⟨sf, f, none, s1.none hf, by rw [put_same]; rfl, rfl⟩
      · rintro i dd τ M' nxt hdd ⟨sM, f', o8, hf', hL, rfl⟩ hnx'
        obtain ⟨hi, rfl⟩ := rng_at hdd
        have ei := List.getElem?_eq_getElem hi
        have ht := List.mem_of_getElem? ei
        have sMM := s1.trans sM
        have hu' := sM _ _ m1
        have hfs := fdsnoc i
        have hl1 := fdlen i (by omega)
        have hl2 := fdlen (i + 1) (by omega)
        rw [pg_at ei] at hfs
        walk_at "dl"
        have hcf := cut_from (xs := (wv.map fun v => decide (v = s)).map D.bl) (i := i + 1) (by simp [wv]; omega)
        have hii : (((i : Nat) : Int) + 1) = ((i + 1 : Nat) : Int) := by omega
        simp only [slG, seqOf_lst hu', cut_to]
        intro p1 hp1
        have up1 : u ≠ p1 := by rintro rfl; rw [hu'] at hp1; cases hp1
        have hu1 : ∀ oo, (put M' p1 oo) u = some (.lst ((wv.map fun v => decide (v = s)).map D.bl)) := fun oo => by rw [put_ne up1]; exact hu'
        simp only [seqOf_lst (hu1 _)]
        rw [hii, hcf]
        intro p2 hp2
        have p12 : p1 ≠ p2 := by rintro rfl; rw [put_same] at hp2; cases hp2
        simp only [addD]
        rw [put_ne p12, put_same, put_same]
        simp only
        refine ⟨by simp [wv]; omega, fun p3 hp3 => ?_⟩
        have e5 : ((wv.map fun v => decide (v = s)).map D.bl).take i ++ ((wv.map fun v => decide (v = s)).map D.bl).drop (i + 1) = ((wv.take i ++ wv.drop (i + 1)).map fun v => decide (v = s)).map D.bl := by
          rw [List.map_append, List.map_append, List.map_take, List.map_take, List.map_drop, List.map_drop]
        rw [e5, all_put]
        have e6 : (((wv.take i ++ wv.drop (i + 1)).map fun v => decide (v = s)).any id) = !ok i := by
          show _ = !(!((wv.take i ++ wv.drop (i + 1)).any fun v => decide (v = s)))
          rw [Bool.not_not, List.any_map]; rfl
        simp only [e6, Bool.not_not]
        generalize e9 : put _ p3 _ = M5
        have s3 : Sub M1 M5 := by rw [← e9]; exact ((sM.put hp1).put hp2).put hp3
        have s5 : Sub M' M5 := by rw [← e9]; exact ((Sub.refl.put hp1).put hp2).put hp3
        have sMM5 := s1.trans s3
        by_cases q : ok i = true
        · rw [if_pos q] at hfs
          simp only [q, if_true, Bool.true_bne, Bool.not_false, Bool.false_bne, Bool.not_true]
          skip
          have g4 := sMM5 _ _ g3
          have hL5 := s5 _ _ hL
          obtain ⟨kv, kl, ke⟩ := kid i _ ei
          have ho := off_le ei
          have i3 : ((roots ts (k0 + 1) l0).map lchD)[i]? = some (lchD (ts[i].root (k0 + 1 + nnL (ts.take i)) (l0 + nlL (ts.take i)))) := by rw [List.getElem?_map, roots_at ei]; rfl
          simp only [ixg_at g4 i3]
          refine ⟨a, w, e, rs, ws, es, ts[i], k0 + 1 + nnL (ts.take i), l0 + nlL (ts.take i), rfl, sMM5 _ _ ha, ?_, wf_kid wt ht, ht_kid hh ht, sMM5 _ _ hw, sMM5 _ _ he, kv, kl, ke, by omega, fun q1 hq1 => ?_⟩
          · intro j sd ks h1 h2
            obtain ⟨r', o', u1, u2, u3⟩ := hN (nnL (ts.take i) + j + 1) sd ks (by rw [Tr.sides, List.getElem?_cons_succ]; exact sides_sub ei h1) (by rw [Tr.kids, List.getElem?_cons_succ]; exact kids_sub ei h2)
            exact ⟨r', o', by rw [show k0 + 1 + nnL (ts.take i) + j = k0 + (nnL (ts.take i) + j + 1) by omega]; exact u1, sMM5 _ _ u2, sMM5 _ _ u3⟩
          · have fq : f' ≠ q1 := by rintro rfl; rw [hL5] at hq1; cases hq1
            have hL6 : ∀ oo, (put M5 q1 oo) f' = some (.lst (natsD (fd i))) := fun oo => by rw [put_ne fq]; exact hL5
            rw [hfs, List.length_append] at hl2
            simp only [addD, hL6, put_same]
            unfold natsD
            simp only [List.length_map] at hl2 ⊢
            refine ⟨by omega, fun q2 hq2 => hnx' _ _ ⟨(s3.put hq1).put hq2, q2, _, s1.none (((s3.put hq1).none hq2)), by rw [put_same, hfs]; unfold natsD; rw [List.map_append], rfl⟩⟩
        · rw [if_neg q, List.append_nil] at hfs
          simp only [q, if_false, Bool.true_bne, Bool.not_false, Bool.false_bne, Bool.not_true, Bool.false_eq_true]
          exact hnx' _ _ ⟨s3, f', _, hf', by rw [hfs]; exact s5 _ _ hL, rfl⟩
      · rintro τ M' ⟨sM, h⟩
        rw [len_rng] at h
        obtain ⟨f', o8, h⟩ := h
        exact hnx _ _ ⟨s1.trans sM, f', o8, h⟩
    rintro τ M3 ⟨sM, f', o8, hf', hL, rfl⟩
    have ef : fd ts.length = (pivs (.nd s ts)).map (l0 + ·) := by
      show ((((List.range ts.length).filter ok).flatMap (pk ts)).map (l0 + ·)) = _
      rw [pivs_node wt]; rfl
    walk_at "dl"
    exact dropQ_of (k f' hf') (put_sub sM (by rw [← ef]; exact hL))
end K44

set_option maxHeartbeats 4000000
namespace K44
open PySem L2 DL DU
local macro_rules | `(tactic| walk_at "dl") => `(tactic| simp only [dSeq, dIfS, dB, dTru, truD, dOp, dVar, dC, dAsg, dAug, dCB, dCons, dNil, dRet, dRetN, dName, dGSub, dNext, ends, exOf, dstart, slot, oI0, oI, dAnd, dOr, dNot, dAndV, dOrV, dNotV, dNeg, dSl, dNoP, dPart, dFld, dFldS, dRaise, dLst, dTup, dFor, dIter, dRng1, dRng2, dCall, dMake, dMeth, dIxO, dLc, dYes, dGTup, dGCons, dGNil, dDrop, dBreak, dBM, dDIn, dNever, dChain, dRngD, dZip, dRaiseI, dLstRg, dDGet, dDGet2, dDNew, dGSubD, dDStar,
  eqD_str, neD_str, eqD_int, neD_int, ixG_t0, ixG_t1, isiG_str, isi_int, isi_int_s, isi_int_t, isi_tup, isi_tup_s, isi_tup_i, isi_str_i, isi_str_t, lenG_tup, addD_int, mulD_int, intG, List.nil_append, bne_iff_ne, ofS_inj, Bool.false_bne, Bool.true_bne,
  List.map, List.length_cons, List.length_nil, List.cons_append, List.append_nil, List.replicate, List.set, List.getElem?_cons_zero, List.getElem?_cons_succ, Option.join_some, Option.bind_some, decide_eq_true_eq])
local macro_rules | `(tactic| walk_at "so") => `(tactic| first | omega | (simp; done) | (simp; omega))
variable {K : PySem.W.Frag} {A : Adr} {w : World} {mg : Str → Option Value}
set_option maxHeartbeats 4000000
def okC (t : Tr) (c : List Nat) : Prop := c.Pairwise (· < ·) ∧ ∀ x, x ∈ c → x < t.nl
theorem okC_len {t : Tr} {c : List Nat} (h : okC t c) : c.length ≤ t.nl := asc_len (l := 0) (n := t.nl) h.1 fun x hx => by have := h.2 x hx; omega
theorem ends_ne {M : Mp} {s l b : Addr} {ns es : List Int} (P : PSt M s l ns) (h : M b = some (.lst (es.map D.int))) : b ≠ s := by
  rintro rfl
  obtain ⟨_, _, seed, pos, rest, p, _⟩ := P
  rw [p] at h
  have e := MO.lst.inj (Option.some.inj h)
  have := congrArg (·[1]?) e
  simp only [List.getElem?_cons_succ, List.getElem?_cons_zero, List.getElem?_map] at this
  cases q : es[1]? with
  | none => rw [q] at this; simp at this
  | some v => rw [q] at this; simp at this
theorem dCL_drawF {S : Addr → Prop} {M0 M : Mp} {s l p : Addr} {ns : List Int} {v n : Nat} {tt : DT} {kp : Mp → Prop} {τ : Sl} {F : Mp → Prop} (J : LS S M0 M s l ns) (hp : Own S M0 M s l p (.lst [])) (hn : n ≤ 1000000) (hk : ∀ M', kp M') (hv : v < τ.length)
    (step : ∀ (i : Nat) (M' : Mp) (k' : Bool → Mp → Prop), i < n → LS S M0 M' s l ns → Ext (fun a => a = s ∨ a = p) M M' → (∀ b M2, LS S M0 M2 s l ns → Ext (Is s) M' M2 → k' b M2) → tt (τ.set v (some (.int (i : Nat)))) M' k' noE)
    (done : ∀ (c : List Nat) (M' : Mp), c.Pairwise (· < ·) → (∀ x, x ∈ c → x < n) → LS S M0 M' s l ns → Ext (fun a => a = s ∨ a = p) M M' → Own S M0 M' s l p (.lst (c.map fun n => D.int ((n : Nat) : Int))) → F M') :
    dCL (fun d τ => τ.set v (some d)) tt (dVar v) kp p τ F ((List.range n).map fun i => D.int ((i : Nat) : Int)) M := by
  have sl : sizeLine = 16777216 := sizeLine_eq
  refine dCL_inv (fun i M' => ∃ c : List Nat, c.Pairwise (· < ·) ∧ (∀ x, x ∈ c → x < i) ∧ LS S M0 M' s l ns ∧ Ext (fun a => a = s ∨ a = p) M M' ∧ Own S M0 M' s l p (.lst (c.map fun n => D.int ((n : Nat) : Int)))) (fun _ _ _ _ => hk _) ?_ ?_ ⟨[], .nil, by simp, J, .refl, hp⟩
  · rintro i d M' nxt hd ⟨c, h1, h2, J', e', O'⟩ hn'
    obtain ⟨hi, rfl⟩ := rng_at hd
    refine step i M' _ hi J' e' fun b M2 J2 e2 => ?_
    have O2 := O'.ext e2
    have e3 : Ext (fun a => a = s ∨ a = p) M M2 := e'.trans (e2.wide fun x h => .inl h)
    cases b with
    | false => exact hn' _ ⟨c, h1, fun x hx => by have := h2 x hx; omega, J2, e3, O2⟩
    | true =>
      simp only [if_true, dVar, slot_set hv, O2.a]
      have lc := asc_len (l := 0) (n := i) h1 fun x hx => by have := h2 x hx; omega
      refine ⟨by rw [List.length_map]; omega, hn' _ ⟨c ++ [i], ?_, fun x hx => ?_, J2.set O2, e3.trans (.set (.inr rfl)), by rw [List.map_append]; exact O2.set⟩⟩
      · refine List.pairwise_append.mpr ⟨h1, by simp, fun a ha b hb => ?_⟩
        have : b = i := by simpa using hb
        have := h2 a ha; omega
      · rcases List.mem_append.mp hx with hx | hx
        · have := h2 x hx; omega
        · have : x = i := by simpa using hx
          omega
  · rintro M' ⟨c, h1, h2, J', e', O'⟩
    rw [len_rng] at h2
    exact done c M' h1 h2 J' e' O'
theorem rgD_nat {n : Nat} : rgD 0 ((n : Nat) : Int) = (List.range n).map fun n => D.int ((n : Nat) : Int) := by
  unfold rgD
  rw [Int.sub_zero, Int.toNat_natCast]
  refine List.map_congr_left fun i _ => by rw [Int.zero_add]
theorem r_law_large (T : Txt w K mg A) : ∀ ds M Q E, sp_law_large A ds M Q E → t_law_large K A (ends Q E) (dstart N_law_large ds) M := by
  rintro ds M Q E ⟨s, l, ns, d, a, b, t, rfl, P, hd, na, hb, g, k⟩
  have sl : sizeLine = 16777216 := sizeLine_eq
  have le : t.ends.length = t.nl := rfl
  have hnl := g.2.2.2
  have hht := g.2.1
  have J0 := LS.zero (S := Is s) P rfl
  have nbs := ends_ne P hb
  have fin : ∀ M', LS (Is s) M M' s l ns → dropQ Q (.bl true) M' := fun M' J => dropQ_of (k M' J.P J.X) .refl
  have DD : ∀ {M'}, LS (Is s) M M' s l ns → DuelAt A.Duel M' d t ∧ NodesAt M' a t ∧ M' b = some (.lst (t.ends.map D.int)) := fun {M'} J => ⟨hd.draw P J.X, na.draw P J.X, J.X _ _ nbs hb⟩
  let C := (cO t 0).2
  have okc : okC t C := ⟨cO_asc _ t 0 (Nat.le_refl _), fun z hz => by have := cO_in _ t 0 (Nat.le_refl _) z hz; omega⟩
  have lC := okC_len okc
  have lC' : (cO t 0).2.length ≤ t.nl := lC
  have neC : 0 < C.length := List.length_pos_iff.mpr (cO_ne _ t 0 (Nat.le_refl _) g.1)
  unfold t_law_large N_law_large
  simp only [dstart, List.map, List.length_cons, List.length_nil, List.replicate, List.cons_append, List.nil_append]
  refine seq_split (fun τ M' => LS (Is s) M M' s l ns ∧ ∃ u, M' u = some (.lst [.int (cO t 0).1, lotD C, .int ((t.nl : Nat) : Int)]) ∧ τ = [some (.ref s), some (.ref d), some t.toD, some (.ref a), some (lchD (t.root 0 0)), some (.ref b), some (.ref u), none, none, none, none, none, none, none, none]) ?_ ?_
  rotate_left
  · intro nx hnx
    walk_at "dl"
    exact ⟨t, 0, rfl, g.1, by omega, hnl, fun u hu => hnx _ _ ⟨J0.new hu, u, put_same, rfl⟩⟩
  rintro τ M1 ⟨J1, u, hu, rfl⟩
  refine seq_split (fun τ M' => M1 = M' ∧ τ = [some (.ref s), some (.ref d), some t.toD, some (.ref a), some (lchD (t.root 0 0)), some (.ref b), some (.ref u), some (lotD C), none, none, none, none, none, none, none]) ?_ ?_
  rotate_left
  · intro nx hnx
    walk_at "dl"
    simp only [ixg_at1 hu]
    exact hnx _ _ ⟨rfl, rfl⟩
  rintro τ M2 ⟨rfl, rfl⟩
  refine seq_split (fun τ M' => M1 = M' ∧ τ = [some (.ref s), some (.ref d), some t.toD, some (.ref a), some (lchD (t.root 0 0)), some (.ref b), some (.ref u), some (lotD C), none, none, none, none, none, none, none]) ?_ ?_
  rotate_left
  · intro nx hnx
    walk_at "dl"
    refine ⟨d, t, rfl, (DD J1).1, g, same_ok (okS_lot (by omega)) ?_⟩
    simp only [Bool.not_true, Bool.false_eq_true, if_false]
    exact hnx _ _ ⟨rfl, rfl⟩
  rintro τ M2 ⟨rfl, rfl⟩
  refine seq_split (fun τ M' => LS (Is s) M M' s l ns ∧ ∃ at_ : Nat, at_ < C.length ∧ τ = [some (.ref s), some (.ref d), some t.toD, some (.ref a), some (lchD (t.root 0 0)), some (.ref b), some (.ref u), some (lotD C), some (.int ((at_ : Nat) : Int)), none, none, none, none, none, none]) ?_ ?_
  rotate_left
  · intro nx hnx
    walk_at "dl"
    rw [lotD_len]
    exact J1.pick (by omega) (log_small (by omega)) fun x M2 x0 x1 J2 e2 => hnx _ _ ⟨J2, x.toNat, by omega, by rw [Int.toNat_of_nonneg x0]⟩
  rintro τ M2 ⟨J2, at_, hat, rfl⟩
  refine seq_split (fun τ M' => LS (Is s) M M' s l ns ∧ ∃ (p : Addr) (cs : List (List Nat)), cs.length = 4 ∧ (∀ c, c ∈ cs → okC t c) ∧ Own (Is s) M M' s l p (.lst (cs.map lotD)) ∧ τ = [some (.ref s), some (.ref d), some t.toD, some (.ref a), some (lchD (t.root 0 0)), some (.ref b), some (.ref u), some (lotD C), some (.int ((at_ : Nat) : Int)), some (.ref p), none, none, none, none, none]) ?_ ?_
  rotate_left
  · intro nx hnx
    walk_at "dl"
    simp only [dTupRg, rgEnds]
    walk_at "dl"
    simp only [lenG_at (DD J2).2.2, List.length_map, le]
    rw [lotD_sl, rgD_nat]
    simp only [lotD_sl2 (show (0 : Int) ≤ ((at_ : Nat) : Int) + 1 by omega), lotD_add]
    have e1 : (((at_ : Nat) : Int) + 1).toNat = at_ + 1 := by omega
    rw [e1]
    refine ⟨by omega, by unfold rgP; omega, by rw [List.length_take, List.length_drop]; omega, by omega, fun p hp => ?_⟩
    refine hnx _ _ ⟨J2.new hp, p, [[], List.range t.nl, C, C.take at_ ++ C.drop (at_ + 1)], rfl, fun c hc => ?_, .new J2 hp, rfl⟩
    have : c = [] ∨ c = List.range t.nl ∨ c = C ∨ c = C.take at_ ++ C.drop (at_ + 1) := by simpa using hc
    rcases this with rfl | rfl | rfl | rfl
    · exact ⟨.nil, by simp⟩
    · exact ⟨List.pairwise_lt_range, fun z hz => List.mem_range.mp hz⟩
    · exact okc
    · exact ⟨asc_sub okc.1 thin_sub, fun z hz => okc.2 z (thin_sub.subset hz)⟩
  rintro τ M3 ⟨J3, p, cs, l4, okcs, Op, rfl⟩
  refine seq_split (fun τ M' => LS (Is s) M M' s l ns ∧ ∃ (cs : List (List Nat)) (o10 o11 o14 : Option D), cs.length = 8 ∧ (∀ c, c ∈ cs → okC t c) ∧ Own (Is s) M M' s l p (.lst (cs.map lotD)) ∧ τ = [some (.ref s), some (.ref d), some t.toD, some (.ref a), some (lchD (t.root 0 0)), some (.ref b), some (.ref u), some (lotD C), some (.int ((at_ : Nat) : Int)), some (.ref p), o10, o11, none, none, o14]) ?_ ?_
  rotate_left
  · intro nx hnx
    walk_at "dl"
    refine ⟨by omega, by omega, ?_⟩
    refine dLoop_inv (fun i τ M' => LS (Is s) M M' s l ns ∧ ∃ (cs : List (List Nat)) (o10 o11 o14 : Option D), cs.length = 4 + i ∧ (∀ c, c ∈ cs → okC t c) ∧ Own (Is s) M M' s l p (.lst (cs.map lotD)) ∧ τ = [some (.ref s), some (.ref d), some t.toD, some (.ref a), some (lchD (t.root 0 0)), some (.ref b), some (.ref u), some (lotD C), some (.int ((at_ : Nat) : Int)), some (.ref p), o10, o11, none, none, o14]) (fun _ _ _ _ _ => trivial) ?_ ?_ ⟨J3, cs, _, _, _, l4, okcs, Op, rfl⟩
    · rintro i dd τ M' nxt hdd ⟨J', cs, o10, o11, o14, lcs, okcs, O', rfl⟩ hnx'
      obtain ⟨hi, rfl⟩ := rng_at hdd
      refine seq_split (fun τ M'' => LS (Is s) M M'' s l ns ∧ Own (Is s) M M'' s l p (.lst (cs.map lotD)) ∧ ∃ v : Int, τ = [some (.ref s), some (.ref d), some t.toD, some (.ref a), some (lchD (t.root 0 0)), some (.ref b), some (.ref u), some (lotD C), some (.int ((at_ : Nat) : Int)), some (.ref p), some (.int (i : Nat)), some (.int v), none, none, o14]) ?_ ?_
      rotate_left
      · intro nx2 hnx2
        walk_at "dl"
        refine ⟨by omega, fun q hq => ?_⟩
        have ev : ∃ v : Int, ([.int 1, .int 3, .int 5, .int 6] : List D)[i]? = some (.int v) := by
          have : i = 0 ∨ i = 1 ∨ i = 2 ∨ i = 3 := by have : i < 4 := hi; omega
          rcases this with rfl | rfl | rfl | rfl <;> exact ⟨_, rfl⟩
        obtain ⟨v, hv⟩ := ev
        simp only [ixg_at put_same hv]
        exact hnx2 _ _ ⟨J'.new hq, O'.lay hq, v, rfl⟩
      rintro τ M4 ⟨J4, O4, v, rfl⟩
      walk_at "dl"
      simp only [lenG_at (DD J4).2.2, List.length_map, le]
      refine ⟨by rw [metT_list O4.a]; trivial, by omega, by omega, fun q hq => ?_⟩
      rw [Int.toNat_natCast]
      refine dCL_drawF (J4.new hq) (.new J4 hq) (by omega) (fun _ => trivial) (by simp [wipeD]) (fun j M2 k' hj J2 e2 hk => ?_) fun c M2 h1 h2 J2 e2 O2 => ?_
      · simp only [wipeD]
        walk_at "dl"
        exact J2.pick (by decide) (by decide) fun r M3 r0 r1 J3 e3 => hk _ _ J3 e3
      · have nq : ¬ (p = s ∨ p = q) := by
          rintro (h | h)
          · exact O4.ns h
          · exact O4.ne hq h.symm
        have O5 : Own (Is s) M M2 s l p (.lst (cs.map lotD)) := (O4.lay hq).extS (S2 := fun a => a = s ∨ a = q) nq e2
        simp only [tupG, seqOf_lst O2.a, append_at O5.a]
        refine ⟨by rw [List.length_map]; omega, hnx' _ _ ⟨J2.set O5, cs ++ [c], _, _, _, by rw [List.length_append]; simp; omega, fun x hx => ?_, by rw [List.map_append]; exact O5.set, rfl⟩⟩
        rcases List.mem_append.mp hx with hx | hx
        · exact okcs _ hx
        · have : x = c := by simpa using hx
          subst this; exact ⟨h1, h2⟩
    · rintro τ M' ⟨J', cs, o10, o11, o14, lcs, okcs, O', rfl⟩
      rw [len_rng] at lcs
      exact hnx _ _ ⟨J', cs, _, _, _, lcs, okcs, O', rfl⟩
  rintro τ M4 ⟨J4, cs, o10, o11, o14, l8, okcs, Op, rfl⟩
  refine seq_split (fun τ M' => LS (Is s) M M' s l ns ∧ ∃ (cs : List (List Nat)) (o14 : Option D), (∀ c, c ∈ cs → okC t c) ∧ Own (Is s) M M' s l p (.lst (cs.map lotD)) ∧ τ = [some (.ref s), some (.ref d), some t.toD, some (.ref a), some (lchD (t.root 0 0)), some (.ref b), some (.ref u), some (lotD C), some (.int ((at_ : Nat) : Int)), some (.ref p), o10, o11, none, none, o14]) ?_ ?_
  rotate_left
  · intro nx hnx
    walk_at "dl"
    simp only [lenG_at (DD J4).2.2, List.length_map, le]
    refine ⟨by rw [metT_list Op.a]; trivial, by omega, by omega, fun q hq => ?_⟩
    rw [Int.toNat_natCast]
    have O5 := Op.lay hq (u := .lst [])
    have qp := Op.ne hq
    refine dCL_pure (fun n => D.int ((n : Nat) : Int)) ((List.range t.nl).map fun x => if x ∈ C then none else some x) (by simp) (by simp; omega) (fun _ => trivial) (fun i dn av ys k' k2 h1 h2 h3 h4 => ?_) ?_
    · obtain ⟨hi, rfl⟩ := rng_at h1
      rw [List.getElem?_map, List.getElem?_range hi] at h2
      have h2 : av = if i ∈ C then none else some i := by simpa using h2.symm
      simp only [wipeD]
      walk_at "dl"
      rw [inG_lot]
      by_cases c : i ∈ C
      · rw [if_pos c] at h2
        simp only [c, decide_true, Bool.true_bne, Bool.not_true, Bool.false_eq_true, if_false]
        exact h4 h2
      · rw [if_neg c] at h2
        simp only [c, decide_false, Bool.true_bne, Bool.not_false, if_true]
        exact h3 _ h2
    · rw [nin_filter]
      have O6 := Op.lay hq (u := .lst ((ninL C t.nl).map fun n => D.int ((n : Nat) : Int)))
      simp only [tup_put, append_at O6.a]
      refine ⟨by rw [List.length_map]; omega, hnx _ _ ⟨(J4.new hq).set O6, cs ++ [ninL C t.nl], _, fun x hx => ?_, by rw [List.map_append]; exact O6.set, rfl⟩⟩
      rcases List.mem_append.mp hx with hx | hx
      · exact okcs _ hx
      · have : x = ninL C t.nl := by simpa using hx
        subst this
        exact ⟨asc_sub List.pairwise_lt_range List.filter_sublist, fun z hz => List.mem_range.mp (List.mem_filter.mp hz).1⟩
  rintro τ M5 ⟨J5, cs, o14, okcs, Op, rfl⟩
  refine seq_split (fun τ M' => LS (Is s) M M' s l ns ∧ ∃ o12, τ = [some (.ref s), some (.ref d), some t.toD, some (.ref a), some (lchD (t.root 0 0)), some (.ref b), some (.ref u), some (lotD C), some (.int ((at_ : Nat) : Int)), some (.ref p), o10, o11, o12, none, o14]) ?_ ?_
  rotate_left
  · intro nx hnx
    walk_at "dl"
    simp only [itemsOf, keepOf, seqOf_lst Op.a]
    refine dLoop_inv (fun i τ M' => M5 = M' ∧ ∃ o12, τ = [some (.ref s), some (.ref d), some t.toD, some (.ref a), some (lchD (t.root 0 0)), some (.ref b), some (.ref u), some (lotD C), some (.int ((at_ : Nat) : Int)), some (.ref p), o10, o11, o12, none, o14]) (fun _ _ _ _ h => h.1 ▸ seqOf_lst Op.a) ?_ ?_ ⟨rfl, _, rfl⟩
    · rintro i dd τ M' nxt hdd ⟨rfl, o12, rfl⟩ hnx'
      rw [List.getElem?_map] at hdd
      cases ei : cs[i]? with
      | none => rw [ei] at hdd; cases hdd
      | some c =>
        rw [ei] at hdd
        have : dd = lotD c := by simpa using hdd.symm
        subst this
        have oc := okcs _ (List.mem_of_getElem? ei)
        have lc := okC_len oc
        obtain ⟨d5, n5, b5⟩ := DD J5
        have okL := asc_ok oc.1 oc.2
        walk_at "dl"
        rw [lotD_I]
        refine cert_ok d5 g (by rw [lotI_len]; omega) okL rfl ?_
        refine ⟨a, b, t, t.ends, lotI c, _, rfl, n5, b5, rfl, g, rfl, ends_bit g.1, by rw [lotI_len]; omega, okL.1, ?_⟩
        rw [certW_O]
        refine same_ok okS_pl ?_
        simp only [Bool.not_true, Bool.false_eq_true, if_false]
        exact hnx' _ _ ⟨rfl, _, rfl⟩
    · rintro τ M' ⟨rfl, o12, rfl⟩
      exact hnx _ _ ⟨J5, _, rfl⟩
  rintro τ M6 ⟨J6, o12, rfl⟩
  refine seq_split (fun τ M' => LS (Is s) M M' s l ns ∧ τ = [some (.ref s), some (.ref d), some t.toD, some (.ref a), some (lchD (t.root 0 0)), some (.ref b), some (.ref u), some (lotD C), some (.int ((at_ : Nat) : Int)), some (.ref p), o10, o11, o12, none, o14]) ?_ ?_
  rotate_left
  · intro nx hnx
    walk_at "dl"
    simp only [lenG_at (DD J6).2.2, List.length_map, le]
    by_cases c : (80 : Int) < ((t.nl : Nat) : Int)
    · simp only [c, decide_true, if_true]
      refine J6.pick (by decide) (by decide) fun r M7 r0 r1 J7 e7 => ?_
      by_cases c2 : (0 : Int) < r
      · simp only [c2, decide_true, if_true]; exact fin _ J7
      · simp only [c2, decide_false, Bool.false_eq_true, if_false]; exact hnx _ _ ⟨J7, rfl⟩
    · simp only [c, decide_false, Bool.false_eq_true, if_false]; exact hnx _ _ ⟨J6, rfl⟩
  rintro τ M7 ⟨J7, rfl⟩
  obtain ⟨d7, n7, b7⟩ := DD J7
  walk_at "dl"
  refine ⟨a, b, t, t.ends, rfl, n7, b7, g, rfl, ends_bit g.1, fun v hv => ?_⟩
  have J8 := J7.new hv (o := .lst ((wins t.ends t).map D.int))
  obtain ⟨d8, ⟨rs, ra, rl, rN⟩, b8⟩ := DD J8
  refine ⟨a, v, b, rs, wins t.ends t, t.ends, t, 0, 0, rfl, ra, rN, g.1, by omega, put_same, b8, fun j x hj => ?_, fun i hi => by rw [Nat.zero_add], by omega, hnl, fun q hq => ?_⟩
  · rw [Nat.zero_add]; exact hj
  · have J9 := J8.new hq (o := .lst (natsD ((pivs t).map (0 + ·))))
    have e0 : (pivs t).map (0 + ·) = pivs t := by simp
    rw [e0] at J9 ⊢
    simp only [tup_put]
    unfold natsD at J9 ⊢
    refine ⟨d, t, rfl, (DD J9).1, g, ?_⟩
    have := pivs_len (t := t)
    exact same_ok (okS_lot (by omega)) (fin _ J9)
end K44

set_option maxHeartbeats 4000000
namespace K44
open PySem L2 DL DU
local macro_rules | `(tactic| walk_at "dl") => `(tactic| simp only [dSeq, dIfS, dB, dTru, truD, dOp, dVar, dC, dAsg, dAug, dCB, dCons, dNil, dRet, dRetN, dName, dGSub, dNext, ends, exOf, dstart, slot, oI0, oI, dAnd, dOr, dNot, dAndV, dOrV, dNotV, dNeg, dSl, dNoP, dPart, dFld, dFldS, dRaise, dLst, dTup, dFor, dIter, dRng1, dRng2, dCall, dMake, dMeth, dIxO, dLc, dYes, dGTup, dGCons, dGNil, dDrop, dBreak, dBM, dDIn, dNever, dChain, dRngD, dZip, dRaiseI, dLstRg, dDGet, dDGet2, dDNew, dGSubD, dDStar,
  eqD_str, neD_str, eqD_int, neD_int, ixG_t0, ixG_t1, isiG_str, isi_int, isi_int_s, isi_int_t, isi_tup, isi_tup_s, isi_tup_i, isi_str_i, isi_str_t, lenG_tup, addD_int, mulD_int, intG, List.nil_append, bne_iff_ne, ofS_inj, Bool.false_bne, Bool.true_bne,
  List.map, List.length_cons, List.length_nil, List.cons_append, List.append_nil, List.replicate, List.set, List.getElem?_cons_zero, List.getElem?_cons_succ, Option.join_some, Option.bind_some, decide_eq_true_eq])
local macro_rules | `(tactic| walk_at "so") => `(tactic| first | omega | (simp; done) | (simp; omega))
variable {K : PySem.W.Frag} {A : Adr} {w : World} {mg : Str → Option Value}
set_option maxHeartbeats 4000000
theorem nl_pos : ∀ (t : Tr), t.wf → 1 ≤ t.nl
  | .lf _, _ => by rw [nl_lf]; omega
  | .nd s (t :: ts), w => by
    rw [Tr.wf] at w
    rw [nl_nd, nlL_cons]
    have := nl_pos t (wfL_mem.mp w.2.2.2 t (by simp)); omega
  | .nd s [], w => by rw [Tr.wf] at w; simp at w
theorem r_law_whole : ∀ ds M Q E, sp_law_whole A ds M Q E → t_law_whole K A (ends Q E) (dstart N_law_whole ds) M := by
  rintro ds M Q E ⟨s, l, ns, d, t, rfl, P, hd, g, k⟩
  have sl : sizeLine = 16777216 := sizeLine_eq
  have le : t.ends.length = t.nl := rfl
  have hnl := g.2.2.2
  have hht := g.2.1
  have hnn := g.2.2.1
  have J0 := LS.zero (S := Is s) P rfl
  have fin : ∀ M', LS (Is s) M M' s l ns → dropQ Q (.bl true) M' := fun M' J => dropQ_of (k M' J.P J.X) .refl
  let C := (cO t 0).2
  have okc : okC t C := ⟨cO_asc _ t 0 (Nat.le_refl _), fun z hz => by have := cO_in _ t 0 (Nat.le_refl _) z hz; omega⟩
  unfold t_law_whole N_law_whole
  simp only [dstart, List.map, List.length_cons, List.length_nil, List.replicate, List.cons_append, List.nil_append]
  refine seq_split (fun τ M' => ∃ a, M a = none ∧ M' = put M a (.lst []) ∧ τ = [some (.ref s), some (.ref d), some t.toD, some (.ref a), none, none, none]) ?_ ?_
  rotate_left
  · intro nx hnx
    walk_at "dl"
    exact ⟨by omega, fun a ha => hnx _ _ ⟨a, ha, rfl, rfl⟩⟩
  rintro τ M1 ⟨a, ha, rfl, rfl⟩
  refine seq_split (fun τ M' => ∃ b, M b = none ∧ a ≠ b ∧ M' = put (put M a (.lst [])) b (.lst []) ∧ τ = [some (.ref s), some (.ref d), some t.toD, some (.ref a), some (.ref b), none, none]) ?_ ?_
  rotate_left
  · intro nx hnx
    walk_at "dl"
    refine ⟨by omega, fun b hb => ?_⟩
    have ba : b ≠ a := by rintro rfl; rw [put_same] at hb; cases hb
    exact hnx _ _ ⟨b, by rwa [put_ne ba] at hb, ba.symm, rfl, rfl⟩
  rintro τ M1 ⟨b, hb, ab, rfl, rfl⟩
  refine seq_split (fun τ M' => LS (Is s) M M' s l ns ∧ NodesAt M' a t ∧ M' b = some (.lst (t.ends.map D.int)) ∧ τ = [some (.ref s), some (.ref d), some t.toD, some (.ref a), some (.ref b), some (lchD (t.root 0 0)), none]) ?_ ?_
  rotate_left
  · intro nx hnx
    walk_at "dl"
    refine ⟨t, a, b, [], [], rfl, g.1, by omega, ab, by rw [put_ne ab, put_same]; rfl, by rw [put_same]; rfl, by simp; omega, by simp; omega, fun M' us hl h1 h2 h3 h4 => ?_⟩
    rw [List.nil_append] at h1 h2
    have s1 : Sub M M' := fun x o h => h3 x o (by
      rintro (rfl | rfl)
      · rw [ha] at h; cases h
      · rw [hb] at h; cases h) (by
      rw [put_ne (by rintro rfl; rw [hb] at h; cases h), put_ne (by rintro rfl; rw [ha] at h; cases h)]; exact h)
    exact hnx _ _ ⟨LSsub J0 s1, nodes_of hl h1 h4, h2, rfl⟩
  rintro τ M1 ⟨J1, n1, b1, rfl⟩
  have nbs := ends_ne J1.P b1
  have hd1 := hd.draw P J1.X
  refine seq_split (fun τ M' => LS (Is s) M M' s l ns ∧ M' b = some (.lst (t.ends.map D.int)) ∧ τ = [some (.ref s), some (.ref d), some t.toD, some (.ref a), some (.ref b), some (lchD (t.root 0 0)), none]) ?_ ?_
  rotate_left
  · intro nx hnx
    walk_at "dl"
    simp only [lenG_at b1, List.length_map, le]
    by_cases c : ((t.nl : Nat) : Int) < 7
    · simp only [c, decide_true, if_true]
      refine ⟨d, a, b, t, rfl, hd1, n1, b1, g, by omega, ?_⟩
      simp only [Bool.not_true, Bool.false_eq_true, if_false]
      exact hnx _ _ ⟨J1, b1, rfl⟩
    · simp only [c, decide_false, Bool.false_eq_true, if_false]
      refine ⟨s, l, ns, d, a, b, t, rfl, J1.P, hd1, n1, b1, g, fun M2 P2 e2 => ?_⟩
      simp only [Bool.not_true, Bool.false_eq_true, if_false]
      exact hnx _ _ ⟨⟨P2, J1.X.trans e2, rfl⟩, e2 _ _ nbs b1, rfl⟩
  rintro τ M2 ⟨J2, b2, rfl⟩
  refine seq_split (fun τ M' => LS (Is s) M M' s l ns) ?_ ?_
  rotate_left
  · intro nx hnx
    walk_at "dl"
    refine ⟨t, 0, rfl, g.1, by omega, hnl, fun v hv => ?_⟩
    have J3 := J2.new hv (o := .lst [.int (cO t 0).1, lotD (cO t 0).2, .int ((t.nl : Nat) : Int)])
    have bv : b ≠ v := by rintro rfl; rw [b2] at hv; cases hv
    simp only [ixg_at1 put_same, dTupRg, rgEnds]
    walk_at "dl"
    simp only [lenG_at (show (put M2 v (.lst [.int (cO t 0).1, lotD (cO t 0).2, .int ((t.nl : Nat) : Int)])) b = _ by rw [put_ne bv]; exact b2), List.length_map, le]
    rw [rgD_nat]
    refine ⟨by unfold rgP; omega, by omega, by omega, fun u hu => ?_⟩
    have b3 : (put M2 v (.lst [.int (cO t 0).1, lotD (cO t 0).2, .int ((t.nl : Nat) : Int)])) b = some (.lst (t.ends.map D.int)) := by rw [put_ne bv]; exact b2
    generalize put M2 v (.lst [.int (cO t 0).1, lotD (cO t 0).2, .int ((t.nl : Nat) : Int)]) = M3 at J3 hu b3 ⊢
    have J4 := J3.new hu (o := .lst [lotD (cO t 0).2, .tup ((List.range t.nl).map fun n => D.int ((n : Nat) : Int)), .tup []])
    have us := J3.P.s_some hu
    have bu : b ≠ u := by rintro rfl; rw [b3] at hu; cases hu
    simp only [itemsOf, keepOf, seqOf_lst put_same]
    refine dLoop_inv (fun i τ M' => LS (Is s) M M' s l ns ∧ M' u = some (.lst [lotD (cO t 0).2, .tup ((List.range t.nl).map fun n => D.int ((n : Nat) : Int)), .tup []]) ∧ M' b = some (.lst (t.ends.map D.int)) ∧ ∃ o6, τ = [some (.ref s), some (.ref d), some t.toD, some (.ref a), some (.ref b), some (lchD (t.root 0 0)), o6]) (fun _ _ _ _ h => seqOf_lst h.2.1) ?_ ?_ ⟨J4, put_same, by rw [put_ne bu]; exact b3, _, rfl⟩
    · rintro i dd τ M' nxt hdd ⟨L', hu', hb', o6, rfl⟩ hnx'
      obtain ⟨c, oc, rfl⟩ : ∃ c : List Nat, okC t c ∧ dd = lotD c := by
        have hi : i = 0 ∨ i = 1 ∨ i = 2 := by have := (List.getElem?_eq_some_iff.mp hdd).1; simp at this; omega
        rcases hi with rfl | rfl | rfl
        · exact ⟨_, okc, by simpa using hdd.symm⟩
        · exact ⟨_, ⟨List.pairwise_lt_range, fun z hz => List.mem_range.mp hz⟩, by unfold lotD; simpa using hdd.symm⟩
        · exact ⟨[], ⟨.nil, by simp⟩, by simpa [lotD] using hdd.symm⟩
      have lc := okC_len oc
      have okl := asc_ok oc.1 oc.2
      walk_at "dl"
      rw [lotD_I]
      refine ⟨d, t, lotI c, rfl, hd.draw P L'.X, g, by rw [lotI_len]; omega, fun _ => ?_, fun n => (n okl).elim⟩
      simp only [neD_str, decide_true, Bool.not_true, Bool.false_eq_true, if_false, lenG_at hb', List.length_map, le]
      refine ⟨s, l, ns, t, lotI c, rfl, L'.P, hnl, nl_pos _ g.1, okl, fun bad hbad hbl M4 P4 e4 => ?_⟩
      have L4 : LS (Is s) M M4 s l ns := ⟨P4, L'.X.trans e4, rfl⟩
      refine ⟨d, t, bad, rfl, hd.draw P L4.X, g, hbl, fun n => (hbad n).elim, fun _ => ?_⟩
      simp only [neD_str, decide_true, Bool.not_true, Bool.false_eq_true, if_false]
      exact hnx' _ _ ⟨L4, e4 _ _ us.1 hu', e4 _ _ nbs hb', _, rfl⟩
    · rintro τ M' ⟨L', _, _, _⟩
      exact hnx _ _ L'
  rintro τ M3 J3
  walk_at "dl"
  exact fin _ J3
end K44

set_option maxHeartbeats 4000000
namespace K44
open PySem L2 DL DU
local macro_rules | `(tactic| walk_at "dl") => `(tactic| simp only [dSeq, dIfS, dB, dTru, truD, dOp, dVar, dC, dAsg, dAug, dCB, dCons, dNil, dRet, dRetN, dName, dGSub, dNext, ends, exOf, dstart, slot, oI0, oI, dAnd, dOr, dNot, dAndV, dOrV, dNotV, dNeg, dSl, dNoP, dPart, dFld, dFldS, dRaise, dLst, dTup, dFor, dIter, dRng1, dRng2, dCall, dMake, dMeth, dIxO, dLc, dYes, dGTup, dGCons, dGNil, dDrop, dBreak, dBM, dDIn, dNever, dChain, dRngD, dZip, dRaiseI, dLstRg, dDGet, dDGet2, dDNew, dGSubD, dDStar,
  eqD_str, neD_str, eqD_int, neD_int, ixG_t0, ixG_t1, isiG_str, isi_int, isi_int_s, isi_int_t, isi_tup, isi_tup_s, isi_tup_i, isi_str_i, isi_str_t, lenG_tup, addD_int, mulD_int, intG, List.nil_append, bne_iff_ne, ofS_inj, Bool.false_bne, Bool.true_bne,
  List.map, List.length_cons, List.length_nil, List.cons_append, List.append_nil, List.replicate, List.set, List.getElem?_cons_zero, List.getElem?_cons_succ, Option.join_some, Option.bind_some, decide_eq_true_eq])
local macro_rules | `(tactic| walk_at "so") => `(tactic| first | omega | (simp; done) | (simp; omega))
variable {K : PySem.W.Frag} {A : Adr} {w : World} {mg : Str → Option Value}
set_option maxHeartbeats 8000000
theorem tree_ls {M0 M M' : Mp} {s l ro : Addr} {ns : List Int} {u : MO} (J : LS (Is s) M0 M s l ns) (O : Own (Is s) M0 M s l ro u) (P' : PSt M' s l ns) (e : Ext (In2 s ro) M M') : LS (Is s) M0 M' s l ns :=
  ⟨P', fun x o n h => e x o (by
    rintro (rfl | rfl)
    · exact n rfl
    · rcases O.z with z | z
      · rw [z] at h; cases h
      · exact n z) (J.X _ _ n h), rfl⟩
theorem make_duel2 {M : Mp} {t : Tr} {R : Mp → Prop} {E : EK} {C x : Addr} (g : good t) (hx : M x = none) (k : ∀ M', DuelAt C M' x t → Sub M M' → R M') : sp_Duel_init C [.ref x, t.toD] (put M x (.ins C [])) (fun d M2 => d = .non ∧ R M2) E :=
  ⟨x, t, rfl, put_same, g, fun M' d e => ⟨rfl, k M' d fun a o h => e _ _ (fun z => by rw [z] at h; rw [hx] at h; cases h) (by
    rw [put_ne]; exact h
    rintro rfl; rw [hx] at h; cases h)⟩⟩
theorem ls_one {S : Addr → Prop} {M0 M M' : Mp} {s l q : Addr} {ns : List Int} {u : MO} (J : LS S M0 M s l ns) (hq : M q = none) (e : Ext (Is q) (put M q u) M') : LS S M0 M' s l ns :=
  LSsub J fun a v h => e _ _ (fun z => by rw [z] at h; rw [hq] at h; cases h) (by rw [put_ne]; exact h; rintro rfl; rw [hq] at h; cases h)
theorem lit {vs : List Nat} {top : Nat} {v : D} (h : ∀ n, n ∈ vs → n ≤ top) (hv : v ∈ vs.map fun n => D.int ((n : Nat) : Int)) : ∃ n : Nat, n ≤ top ∧ v = .int ((n : Nat) : Int) := by
  obtain ⟨n, hn, rfl⟩ := List.mem_map.mp hv
  exact ⟨n, h n hn, rfl⟩
theorem r_law (T : Txt w K mg A) : ∀ ds M Q E, sp_law K ds M Q E → t_law K A (ends Q E) (dstart N_law ds) M := by
  rintro ds M Q E ⟨a0, ns, rfl, hM, hl, hb, k⟩
  have sl : sizeLine = 16777216 := sizeLine_eq
  have fin : ∀ M', dropQ Q (.bl true) M' := fun M' => dropQ_of (k M') .refl
  unfold t_law N_law
  simp only [dstart, List.map, List.length_cons, List.length_nil, List.replicate, List.cons_append, List.nil_append]
  refine seq_split (fun τ M' => ∃ s l, PSt M' s l ns ∧ τ = [some (.ref a0), some (.ref s), none, none, none, none, none, none, none, none, none, none, none, none, none]) ?_ ?_
  rotate_left
  · intro nx hnx
    walk_at "dl"
    exact ⟨a0, ns, rfl, hM, hl, fun s l M' P _ => hnx _ _ ⟨s, l, P, rfl⟩⟩
  rintro τ M0 ⟨s, l, P, rfl⟩
  have J := LS.zero (S := Is s) P rfl
  refine seq_split (fun τ M' => LS (Is s) M0 M' s l ns ∧ ∃ (ro : Addr) (x y : Nat), x ≤ 200 ∧ y ≤ 199 ∧ Own (Is s) M0 M' s l ro (.lst [.int (x : Nat), .int (y : Nat)]) ∧ τ = [some (.ref a0), some (.ref s), some (.ref ro), none, none, none, none, none, none, none, none, none, none, none, none]) ?_ ?_
  rotate_left
  · intro nx hnx
    walk_at "dl"
    refine ⟨by omega, J.choose rfl (by decide) (by decide) fun v M1 hv J1 e1 => ⟨by omega, J1.choose rfl (by decide) (by decide) fun v2 M2 hv2 J2 e2 => ⟨by omega, fun ro hro => ?_⟩⟩⟩
    obtain ⟨x, hx, rfl⟩ := lit (vs := [1, 2, 3, 4, 6, 8]) (top := 200) (by decide) hv
    obtain ⟨y, hy, rfl⟩ := lit (vs := [0, 1, 2, 3, 4, 5, 5]) (top := 199) (by decide) hv2
    exact hnx _ _ ⟨J2.new hro, ro, x, y, hx, hy, .new J2 hro, rfl⟩
  rintro τ M1 ⟨J1, ro, x, y, hx, hy, O1, rfl⟩
  refine seq_split (fun τ M' => LS (Is s) M0 M' s l ns ∧ Own (Is s) M0 M' s l ro (.lst [.int (x : Nat), .int (y : Nat)]) ∧ ∃ lv : Nat, lv ≤ 20 ∧ τ = [some (.ref a0), some (.ref s), some (.ref ro), some (.int (lv : Nat)), none, none, none, none, none, none, none, none, none, none, none]) ?_ ?_
  rotate_left
  · intro nx hnx
    walk_at "dl"
    refine ⟨by omega, fun p hp => ?_⟩
    have O1' := O1.lay hp (u := .lst [.int 0, .int 1, .int 2, .int 2, .int 3, .int 4, .int 5])
    refine (J1.new hp).pickAt put_same (J1.P.s_some hp).1 rfl (by decide) (by decide) fun v M2 hv J2 e2 => ?_
    obtain ⟨lv, hlv, rfl⟩ := lit (vs := [0, 1, 2, 2, 3, 4, 5]) (top := 20) (by decide) hv
    exact hnx _ _ ⟨J2, O1'.ext e2, lv, hlv, rfl⟩
  rintro τ M2 ⟨J2, O2, lv, hlv, rfl⟩
  refine seq_split (fun τ M' => LS (Is s) M0 M' s l ns ∧ ∃ (ro : Addr) (x y lv : Nat), x ≤ 200 ∧ y ≤ 199 ∧ lv ≤ 20 ∧ Own (Is s) M0 M' s l ro (.lst [.int (x : Nat), .int (y : Nat)]) ∧ τ = [some (.ref a0), some (.ref s), some (.ref ro), some (.int (lv : Nat)), none, none, none, none, none, none, none, none, none, none, none]) ?_ ?_
  rotate_left
  · intro nx hnx
    walk_at "dl"
    refine J2.pick (by decide) (by decide) fun r M3 r0 r1 J3 e3 => ?_
    simp only [eqD_int]
    by_cases c : r = 0
    · simp only [c, decide_true, if_true]
      refine ⟨by omega, J3.choose rfl (by decide) (by decide) fun v M4 hv J4 e4 => ⟨by omega, J4.choose rfl (by decide) (by decide) fun v2 M5 hv2 J5 e5 => ⟨by omega, fun ro hro => ?_⟩⟩⟩
      obtain ⟨x, hx, rfl⟩ := lit (vs := [30, 90, 200]) (top := 200) (by decide) hv
      obtain ⟨y, hy, rfl⟩ := lit (vs := [40, 100, 199]) (top := 199) (by decide) hv2
      have J6 := J5.new hro (o := .lst [.int (x : Nat), .int (y : Nat)])
      have O6 := Own.new (o := .lst [.int (x : Nat), .int (y : Nat)]) J5 hro
      refine ⟨by omega, fun p hp => ?_⟩
      have O7 := O6.lay hp (u := .lst [.int 6, .int 12, .int 20])
      refine (J6.new hp).pickAt put_same (J6.P.s_some hp).1 rfl (by decide) (by decide) fun v M7 hv J7 e7 => ?_
      obtain ⟨lv, hlv, rfl⟩ := lit (vs := [6, 12, 20]) (top := 20) (by decide) hv
      exact hnx _ _ ⟨J7, ro, x, y, lv, hx, hy, hlv, O7.ext e7, rfl⟩
    · simp only [c, decide_false, Bool.false_eq_true, if_false]
      exact hnx _ _ ⟨J3, ro, x, y, lv, hx, hy, hlv, O2.ext e3, rfl⟩
  clear O2 hlv O1 hx hy
  rintro τ M3 ⟨J3, ro, x, y, lv, hx, hy, hlv, O3, rfl⟩
  refine seq_split (fun τ M' => LS (Is s) M0 M' s l ns ∧ ∃ t : Tr, good t ∧ τ = [some (.ref a0), some (.ref s), some (.ref ro), some (.int (lv : Nat)), some t.toD, none, none, none, none, none, none, none, none, none, none]) ?_ ?_
  rotate_left
  · intro nx hnx
    walk_at "dl"
    refine ⟨s, l, ns, lv, ro, x, y, rfl, J3.P, O3.ns, O3.nl, O3.a, by omega, by omega, by omega, fun t M4 x' y' wt ht nt nlt P' e' _ => ?_⟩
    exact hnx _ _ ⟨tree_ls J3 O3 P' e', t, ⟨wt, by omega, by omega, by omega⟩, rfl⟩
  rintro τ M4 ⟨J4, t, g, rfl⟩
  have hht := g.2.1
  have hnn := g.2.2.1
  have hnl := g.2.2.2
  have le : t.ends.length = t.nl := rfl
  refine seq_split (fun τ M' => LS (Is s) M0 M' s l ns ∧ ∃ d, DuelAt A.Duel M' d t ∧ τ = [some (.ref a0), some (.ref s), some (.ref ro), some (.int (lv : Nat)), some t.toD, some (.ref d), none, none, none, none, none, none, none, none, none]) ?_ ?_
  rotate_left
  · intro nx hnx
    walk_at "dl"
    intro d hd
    exact make_duel2 g hd fun M8 d8 s8 => hnx _ _ ⟨LSsub J4 s8, d, d8, rfl⟩
  rintro τ M5 ⟨J5, d, hd5, rfl⟩
  refine seq_split (fun τ M' => LS (Is s) M0 M' s l ns ∧ DuelAt A.Duel M' d t ∧ τ = [some (.ref a0), some (.ref s), some (.ref ro), some (.int (lv : Nat)), some t.toD, some (.ref d), none, none, none, none, none, none, none, none, none]) ?_ ?_
  rotate_left
  · intro nx hnx
    walk_at "dl"
    refine ⟨s, l, ns, d, t, rfl, J5.P, hd5, g, fun M9 P9 e9 => ?_⟩
    simp only [Bool.not_true, Bool.false_eq_true, if_false]
    exact hnx _ _ ⟨⟨P9, J5.X.trans e9, rfl⟩, hd5.draw J5.P e9, rfl⟩
  rintro τ M6 ⟨J6, hd6, rfl⟩
  refine seq_split (fun τ M' => LS (Is s) M0 M' s l ns ∧ DuelAt A.Duel M' d t ∧ ∃ a, Own (Is s) M0 M' s l a (.lst []) ∧ τ = [some (.ref a0), some (.ref s), some (.ref ro), some (.int (lv : Nat)), some t.toD, some (.ref d), some (.ref a), none, none, none, none, none, none, none, none]) ?_ ?_
  rotate_left
  · intro nx hnx
    walk_at "dl"
    exact ⟨by omega, fun a ha => hnx _ _ ⟨J6.new ha, by unfold DuelAt at hd6 ⊢; exact Sub.refl.put ha _ _ hd6, a, .new J6 ha, rfl⟩⟩
  rintro τ M7 ⟨J7, hd7, a, Oa, rfl⟩
  refine seq_split (fun τ M' => LS (Is s) M0 M' s l ns ∧ DuelAt A.Duel M' d t ∧ ∃ b, a ≠ b ∧ Own (Is s) M0 M' s l a (.lst []) ∧ Own (Is s) M0 M' s l b (.lst []) ∧ τ = [some (.ref a0), some (.ref s), some (.ref ro), some (.int (lv : Nat)), some t.toD, some (.ref d), some (.ref a), some (.ref b), none, none, none, none, none, none, none]) ?_ ?_
  rotate_left
  · intro nx hnx
    walk_at "dl"
    exact ⟨by omega, fun b hb => hnx _ _ ⟨J7.new hb, by unfold DuelAt at hd7 ⊢; exact Sub.refl.put hb _ _ hd7, b, (Oa.ne hb).symm, Oa.lay hb, .new J7 hb, rfl⟩⟩
  rintro τ M8 ⟨J8, hd8, b, ab, Oa8, Ob8, rfl⟩
  refine seq_split (fun τ M' => LS (Is s) M0 M' s l ns ∧ DuelAt A.Duel M' d t ∧ NodesAt M' a t ∧ M' b = some (.lst (t.ends.map D.int)) ∧ τ = [some (.ref a0), some (.ref s), some (.ref ro), some (.int (lv : Nat)), some t.toD, some (.ref d), some (.ref a), some (.ref b), some (lchD (t.root 0 0)), none, none, none, none, none, none]) ?_ ?_
  rotate_left
  · intro nx hnx
    walk_at "dl"
    refine ⟨t, a, b, [], [], rfl, g.1, by omega, ab, Oa8.a, Ob8.a, by simp; omega, by simp; omega, fun M' us hl h1 h2 h3 h4 => ?_⟩
    rw [List.nil_append] at h1 h2
    have e2 : Ext (In2 a b) M8 M' := h3
    have J9 : LS (Is s) M0 M' s l ns := by
      obtain ⟨p1, p2, seed, pos, rest, p3, p4⟩ := J8.P
      refine ⟨⟨p1, e2 _ _ (by rintro (z | z); exact Oa8.nl z.symm; exact Ob8.nl z.symm) p2, seed, pos, rest, e2 _ _ (by rintro (z | z); exact Oa8.ns z.symm; exact Ob8.ns z.symm) p3, p4⟩, fun x o n h => e2 _ _ ?_ (J8.X _ _ n h), rfl⟩
      rintro (rfl | rfl)
      · rcases Oa8.z with z | z
        · rw [z] at h; cases h
        · exact n z
      · rcases Ob8.z with z | z
        · rw [z] at h; cases h
        · exact n z
    have d9 : DuelAt A.Duel M' d t := by
      unfold DuelAt at hd8 ⊢
      refine e2 _ _ ?_ hd8
      rintro (rfl | rfl)
      · rw [Oa8.a] at hd8; cases hd8
      · rw [Ob8.a] at hd8; cases hd8
    exact hnx _ _ ⟨J9, d9, nodes_of hl h1 h4, h2, rfl⟩
  rintro τ M9 ⟨J9, hd9, n9, b9, rfl⟩
  clear J J1 J2 J3 J4 J5 J6 J7 J8 O3 Oa Oa8 Ob8 hd5 hd6 hd7 hd8
  have P9 := J9.P
  clear J9
  have J9 := LS.zero (S := Is s) P9 rfl
  have nbs := ends_ne P9 b9
  have DD : ∀ {M'}, LS (Is s) M9 M' s l ns → DuelAt A.Duel M' d t ∧ NodesAt M' a t ∧ M' b = some (.lst (t.ends.map D.int)) := fun {M'} J => ⟨hd9.draw P9 J.X, n9.draw P9 J.X, J.X _ _ nbs b9⟩
  refine seq_split (fun τ M' => LS (Is s) M9 M' s l ns ∧ ∃ es o14, es.length = t.nl ∧ (∀ z, z ∈ es → bit z) ∧ τ = [some (.ref a0), some (.ref s), some (.ref ro), some (.int (lv : Nat)), some t.toD, some (.ref d), some (.ref a), some (.ref b), some (lchD (t.root 0 0)), some (t.re es 0).toD, none, none, none, none, o14]) ?_ ?_
  rotate_left
  · intro nx hnx
    walk_at "dl"
    simp only [itemsOf, keepOf, seqOf_lst b9]
    intro u hu
    refine dCL_draws D.int bit (J9.new hu) (.new J9 hu) (by rw [List.length_map, le]; omega) (fun _ J' _ => seqOf_lst (DD J').2.2) (fun i dn M' k' hdn J' e' hk => ?_) fun xs M' hx hxs J' e' O' => ?_
    · simp only [wipeD]
      walk_at "dl"
      exact J'.pick (by decide) (by decide) fun r M2 r0 r1 J2 e2 => hk r M2 (bit_of r0 r1) J2 e2
    · rw [List.length_map, le] at hx
      refine ⟨by omega, fun q hq => ?_⟩
      have uq := O'.ne hq
      have J2 := J'.new hq (o := .lst [.int 0])
      refine ⟨t, .ref u, xs, q, 0, rfl, fun b' hb' => by cases hb'; exact uq.symm, sq_at (O'.lay hq).a, put_same, by omega, g.1, by omega, fun M2 h2 e2 => ?_⟩
      exact hnx _ _ ⟨ls_one J' hq e2, xs, _, hx, hxs, rfl⟩
  rintro τ M10 ⟨J10, es, o14, les, bes, rfl⟩
  have gO : good (t.re es 0) := good_re (lv_bit bes) g
  refine seq_split (fun τ M' => LS (Is s) M9 M' s l ns ∧ τ = [some (.ref a0), some (.ref s), some (.ref ro), some (.int (lv : Nat)), some t.toD, some (.ref d), some (.ref a), some (.ref b), some (lchD (t.root 0 0)), some (t.re es 0).toD, none, none, none, none, o14]) ?_ ?_
  rotate_left
  · intro nx hnx
    walk_at "dl"
    intro x hx
    refine make_duel2 gO hx fun M11 d11 s11 => ?_
    have J11 := LSsub J10 s11
    refine ⟨s, l, ns, x, t.re es 0, rfl, J11.P, d11, gO, fun M12 P12 e12 => ?_⟩
    simp only [Bool.not_true, Bool.false_eq_true, if_false]
    exact hnx _ _ ⟨⟨P12, J11.X.trans e12, rfl⟩, rfl⟩
  rintro τ M11 ⟨J11, rfl⟩
  refine seq_split (fun τ M' => LS (Is s) M9 M' s l ns ∧ ∃ o, DuelAt A.Duel M' o t.sw ∧ τ = [some (.ref a0), some (.ref s), some (.ref ro), some (.int (lv : Nat)), some t.toD, some (.ref d), some (.ref a), some (.ref b), some (lchD (t.root 0 0)), some (t.re es 0).toD, some (.ref o), none, none, none, o14]) ?_ ?_
  rotate_left
  · intro nx hnx
    walk_at "dl"
    exact ⟨d, t, rfl, (DD J11).1, g, fun x M' hx hd' s' => hnx _ _ ⟨LSsub J11 s', x, hd', rfl⟩⟩
  rintro τ M12 ⟨J12, o, ho12, rfl⟩
  have gS : good t.sw := good_sw g
  refine seq_split (fun τ M' => LS (Is s) M9 M' s l ns ∧ DuelAt A.Duel M' o t.sw ∧ τ = [some (.ref a0), some (.ref s), some (.ref ro), some (.int (lv : Nat)), some t.toD, some (.ref d), some (.ref a), some (.ref b), some (lchD (t.root 0 0)), some (t.re es 0).toD, some (.ref o), none, none, none, o14]) ?_ ?_
  rotate_left
  · intro nx hnx
    walk_at "dl"
    refine ⟨t, rfl, g.1, by omega, ?_⟩
    refine ⟨s, l, ns, o, t.sw, rfl, J12.P, ho12, gS, fun M13 P13 e13 => ?_⟩
    simp only [Bool.not_true, Bool.false_eq_true, if_false]
    exact hnx _ _ ⟨⟨P13, J12.X.trans e13, rfl⟩, ho12.draw J12.P e13, rfl⟩
  rintro τ M13 ⟨J13, ho13, rfl⟩
  refine seq_split (fun τ M' => LS (Is s) M9 M' s l ns ∧ DuelAt A.Duel M' o t.sw ∧ τ = [some (.ref a0), some (.ref s), some (.ref ro), some (.int (lv : Nat)), some t.toD, some (.ref d), some (.ref a), some (.ref b), some (lchD (t.root 0 0)), some (t.re es 0).toD, some (.ref o), some (lotD (cO t 0).2), none, none, o14]) ?_ ?_
  rotate_left
  · intro nx hnx
    walk_at "dl"
    refine ⟨t, 0, rfl, g.1, by omega, hnl, fun v hv => ?_⟩
    simp only [ixg_at1 put_same]
    exact hnx _ _ ⟨J13.new hv, by unfold DuelAt at ho13 ⊢; exact Sub.refl.put hv _ _ ho13, rfl⟩
  rintro τ M14 ⟨J14, ho14, rfl⟩
  have cl := cert_len (t := t) (l := 0)
  refine seq_split (fun τ M' => M14 = M' ∧ τ = [some (.ref a0), some (.ref s), some (.ref ro), some (.int (lv : Nat)), some t.toD, some (.ref d), some (.ref a), some (.ref b), some (lchD (t.root 0 0)), some (t.re es 0).toD, some (.ref o), some (lotD (cO t 0).2), none, none, o14]) ?_ ?_
  rotate_left
  · intro nx hnx
    walk_at "dl"
    refine ⟨o, t.sw, rfl, ho14, gS, ?_⟩
    rw [cO_sw]
    refine same_ok (okS_lot (by show (cO t 0).2.length ≤ _; omega)) ?_
    simp only [Bool.not_true, Bool.false_eq_true, if_false]
    refine ⟨d, t, rfl, (DD J14).1, g, same_ok (okS_lot (by omega)) ?_⟩
    simp only [Bool.not_true, Bool.false_eq_true, if_false]
    exact hnx _ _ ⟨rfl, rfl⟩
  rintro τ M15 ⟨rfl, rfl⟩
  refine seq_split (fun τ M' => LS (Is s) M9 M' s l ns ∧ DuelAt A.Duel M' o t.sw ∧ ∃ c o14, okC t c ∧ τ = [some (.ref a0), some (.ref s), some (.ref ro), some (.int (lv : Nat)), some t.toD, some (.ref d), some (.ref a), some (.ref b), some (lchD (t.root 0 0)), some (t.re es 0).toD, some (.ref o), some (lotD (cO t 0).2), some (lotD c), none, o14]) ?_ ?_
  rotate_left
  · intro nx hnx
    walk_at "dl"
    simp only [lenG_at (DD J14).2.2, List.length_map, le]
    refine ⟨by omega, by omega, fun q hq => ?_⟩
    rw [Int.toNat_natCast]
    refine dCL_drawF (J14.new hq) (.new J14 hq) (by omega) (fun _ => trivial) (by simp [wipeD]) (fun j M2 k' hj J2 e2 hk => ?_) fun c M2 h1 h2 J2 e2 O2 => ?_
    · simp only [wipeD]
      walk_at "dl"
      exact J2.pick (by decide) (by decide) fun r M3 r0 r1 J3 e3 => hk _ _ J3 e3
    · simp only [tupG, seqOf_lst O2.a]
      have ho2 : DuelAt A.Duel M2 o t.sw := by
        have := duel_ne J14.P ho14
        unfold DuelAt at ho14 ⊢
        refine e2 _ _ ?_ (Sub.refl.put hq _ _ ho14)
        rintro (z | z)
        · exact this z
        · rw [z] at ho14; rw [hq] at ho14; cases ho14
      exact hnx _ _ ⟨J2, ho2, c, _, ⟨h1, h2⟩, rfl⟩
  clear o14
  rintro τ M15 ⟨J15, ho15, c, o14, okc, rfl⟩
  have lc := okC_len okc
  have okl := asc_ok okc.1 okc.2
  obtain ⟨d15, n15, b15⟩ := DD J15
  refine seq_split (fun τ M' => M15 = M' ∧ τ = [some (.ref a0), some (.ref s), some (.ref ro), some (.int (lv : Nat)), some t.toD, some (.ref d), some (.ref a), some (.ref b), some (lchD (t.root 0 0)), some (t.re es 0).toD, some (.ref o), some (lotD (cO t 0).2), some (lotD c), some (plD (certO t (lotI c))), o14]) ?_ ?_
  rotate_left
  · intro nx hnx
    walk_at "dl"
    rw [lotD_I]
    refine ⟨a, b, t, t.ends, lotI c, _, rfl, n15, b15, rfl, g, rfl, ends_bit g.1, by rw [lotI_len]; omega, okl.1, ?_⟩
    rw [certW_O, ← lotD_I]
    exact hnx _ _ ⟨rfl, rfl⟩
  rintro τ M16 ⟨rfl, rfl⟩
  refine seq_split (fun τ M' => M15 = M' ∧ τ = [some (.ref a0), some (.ref s), some (.ref ro), some (.int (lv : Nat)), some t.toD, some (.ref d), some (.ref a), some (.ref b), some (lchD (t.root 0 0)), some (t.re es 0).toD, some (.ref o), some (lotD (cO t 0).2), some (lotD c), some (plD (certO t (lotI c))), o14]) ?_ ?_
  rotate_left
  · intro nx hnx
    walk_at "dl"
    rw [lotD_I]
    refine cert_ok d15 g (by rw [lotI_len]; omega) okl rfl (same_ok okS_pl ?_)
    simp only [Bool.not_true, Bool.false_eq_true, if_false]
    rw [← lotD_I]
    exact hnx _ _ ⟨rfl, rfl⟩
  rintro τ M16 ⟨rfl, rfl⟩
  refine seq_split (fun τ M' => M15 = M' ∧ τ = [some (.ref a0), some (.ref s), some (.ref ro), some (.int (lv : Nat)), some t.toD, some (.ref d), some (.ref a), some (.ref b), some (lchD (t.root 0 0)), some (t.re es 0).toD, some (.ref o), some (lotD (cO t 0).2), some (lotD c), some (plD (certO t.sw (lotI c))), o14]) ?_ ?_
  rotate_left
  · intro nx hnx
    rw [certO_sw] at hnx
    cases e : certO t (lotI c) with
    | none =>
      rw [e] at hnx
      simp only [plD]
      walk_at "dl"
      simp only [isG, isNone, Bool.true_bne, Bool.not_true, Bool.false_eq_true, if_false]
      exact hnx _ _ ⟨rfl, rfl⟩
    | some v =>
      rw [e] at hnx
      simp only [plD]
      walk_at "dl"
      simp only [isG, isNone, Bool.true_bne, Bool.not_false, if_true]
      exact hnx _ _ ⟨rfl, rfl⟩
  rintro τ M16 ⟨rfl, rfl⟩
  walk_at "dl"
  rw [lotD_I]
  have okls : okLot t.sw (lotI c) := asc_ok okc.1 fun x hx => by rw [sw_nl]; exact okc.2 x hx
  exact cert_ok ho15 gS (by rw [lotI_len]; omega) okls rfl (same_ok okS_pl (fin _))
end K44

set_option maxHeartbeats 4000000
namespace K44
open PySem L2 DL
theorem fnOk_not {P : Program} {w : World} {K : PySem.W.Frag} {mg : Str → Option Value} {base : Heap} {k : Nat} {f : Addr} {fd : FuncData} {ps : List Str} {sp : DSp} (h : ∀ ds M Q E, ¬ sp ds M Q E) : FnOk P w K mg base (L2.CX P w) k f fd ps (liftSp K sp) :=
  ⟨fun vs H Q E ⟨ds, M, Qd, Ed, q, r⟩ => (h _ _ _ _ q).elim, fun A outer s H args us vs Q E hr he hb hv ⟨ds, M, Qd, Ed, q, r⟩ => (h _ _ _ _ q).elim⟩
theorem len_is_outcome : ∀ ds M Q E, sp_is_outcome ds M Q E → ds.length = P_is_outcome.length := fun ds M Q E h => by
  (repeat (obtain ⟨_, h⟩ := h))
  all_goals (subst_vars; rfl)
theorem len_check_tree : ∀ ds M Q E, sp_check_tree ds M Q E → ds.length = P_check_tree.length := fun ds M Q E h => by
  (repeat (obtain ⟨_, h⟩ := h))
  all_goals (subst_vars; rfl)
theorem len_scan_tree {n : Nat} : ∀ ds M Q E, sp_scan_tree (n + 1) ds M Q E → ds.length = P_scan_tree.length := fun ds M Q E h => by
  (repeat (obtain ⟨_, h⟩ := h))
  all_goals (subst_vars; rfl)
theorem len_Duel_init {A : Adr} : ∀ ds M Q E, sp_Duel_init A.Duel ds M Q E → ds.length = P_Duel_init.length := fun ds M Q E h => by
  (repeat (obtain ⟨_, h⟩ := h))
  all_goals (subst_vars; rfl)
theorem len_swapped_tree {n : Nat} : ∀ ds M Q E, sp_swapped_tree (n + 1) ds M Q E → ds.length = P_swapped_tree.length := fun ds M Q E h => by
  (repeat (obtain ⟨_, h⟩ := h))
  all_goals (subst_vars; rfl)
theorem len_swapped {A : Adr} : ∀ ds M Q E, sp_swapped A.Duel ds M Q E → ds.length = P_swapped.length := fun ds M Q E h => by
  (repeat (obtain ⟨_, h⟩ := h))
  all_goals (subst_vars; rfl)
theorem len_entry_of : ∀ ds M Q E, sp_entry_of ds M Q E → ds.length = P_entry_of.length := fun ds M Q E h => by
  (repeat (obtain ⟨_, h⟩ := h))
  all_goals (subst_vars; rfl)
theorem len_winners_with {A : Adr} : ∀ ds M Q E, sp_winners_with A.Duel ds M Q E → ds.length = P_winners_with.length := fun ds M Q E h => by
  (repeat (obtain ⟨_, h⟩ := h))
  all_goals (subst_vars; rfl)
theorem len_winner {A : Adr} : ∀ ds M Q E, sp_winner A.Duel ds M Q E → ds.length = P_winner.length := fun ds M Q E h => by
  (repeat (obtain ⟨_, h⟩ := h))
  all_goals (subst_vars; rfl)
theorem len_require_leaves {A : Adr} : ∀ ds M Q E, sp_require_leaves A ds M Q E → ds.length = P_require_leaves.length := fun ds M Q E h => by
  (repeat (obtain ⟨_, h⟩ := h))
  all_goals (subst_vars; rfl)
theorem len_certified_outcome {A : Adr} : ∀ ds M Q E, sp_certified_outcome A ds M Q E → ds.length = P_certified_outcome.length := fun ds M Q E h => by
  (repeat (obtain ⟨_, h⟩ := h))
  all_goals (subst_vars; rfl)
theorem len_least_certificate {A : Adr} : ∀ ds M Q E, sp_least_certificate A.Duel ds M Q E → ds.length = P_least_certificate.length := fun ds M Q E h => by
  (repeat (obtain ⟨_, h⟩ := h))
  all_goals (subst_vars; rfl)
theorem len_pivot_leaves {A : Adr} : ∀ ds M Q E, sp_pivot_leaves A.Duel ds M Q E → ds.length = P_pivot_leaves.length := fun ds M Q E h => by
  (repeat (obtain ⟨_, h⟩ := h))
  all_goals (subst_vars; rfl)
theorem len_law_pick : ∀ ds M Q E, sp_law_pick ds M Q E → ds.length = P_law_pick.length := fun ds M Q E h => by
  (repeat (obtain ⟨_, h⟩ := h))
  all_goals (subst_vars; rfl)
theorem len_law_same {n : Nat} : ∀ ds M Q E, sp_law_same (n + 1) ds M Q E → ds.length = P_law_same.length := fun ds M Q E h => by
  (repeat (obtain ⟨_, h⟩ := h))
  all_goals (subst_vars; rfl)
theorem len_law_tree {n : Nat} : ∀ ds M Q E, sp_law_tree (n + 1) ds M Q E → ds.length = P_law_tree.length := fun ds M Q E h => by
  (repeat (obtain ⟨_, h⟩ := h))
  all_goals (subst_vars; rfl)
theorem len_law_scan {n : Nat} : ∀ ds M Q E, sp_law_scan (n + 1) ds M Q E → ds.length = P_law_scan.length := fun ds M Q E h => by
  (repeat (obtain ⟨_, h⟩ := h))
  all_goals (subst_vars; rfl)
theorem len_law_at : ∀ ds M Q E, sp_law_at ds M Q E → ds.length = P_law_at.length := fun ds M Q E h => by
  (repeat (obtain ⟨_, h⟩ := h))
  all_goals (subst_vars; rfl)
theorem len_law_winners : ∀ ds M Q E, sp_law_winners ds M Q E → ds.length = P_law_winners.length := fun ds M Q E h => by
  (repeat (obtain ⟨_, h⟩ := h))
  all_goals (subst_vars; rfl)
theorem len_law_lots {n : Nat} : ∀ ds M Q E, sp_law_lots (n + 1) ds M Q E → ds.length = P_law_lots.length := fun ds M Q E h => by
  (repeat (obtain ⟨_, h⟩ := h))
  all_goals (subst_vars; rfl)
theorem len_law_parting : ∀ ds M Q E, sp_law_parting ds M Q E → ds.length = P_law_parting.length := fun ds M Q E h => by
  (repeat (obtain ⟨_, h⟩ := h))
  all_goals (subst_vars; rfl)
theorem len_law_certifies : ∀ ds M Q E, sp_law_certifies ds M Q E → ds.length = P_law_certifies.length := fun ds M Q E h => by
  (repeat (obtain ⟨_, h⟩ := h))
  all_goals (subst_vars; rfl)
theorem len_law_small {A : Adr} : ∀ ds M Q E, sp_law_small A ds M Q E → ds.length = P_law_small.length := fun ds M Q E h => by
  (repeat (obtain ⟨_, h⟩ := h))
  all_goals (subst_vars; rfl)
theorem len_law_fewest {n : Nat} : ∀ ds M Q E, sp_law_fewest (n + 1) ds M Q E → ds.length = P_law_fewest.length := fun ds M Q E h => by
  (repeat (obtain ⟨_, h⟩ := h))
  all_goals (subst_vars; rfl)
theorem len_law_two : ∀ ds M Q E, sp_law_two ds M Q E → ds.length = P_law_two.length := fun ds M Q E h => by
  (repeat (obtain ⟨_, h⟩ := h))
  all_goals (subst_vars; rfl)
theorem len_law_deciding {n : Nat} : ∀ ds M Q E, sp_law_deciding (n + 1) ds M Q E → ds.length = P_law_deciding.length := fun ds M Q E h => by
  (repeat (obtain ⟨_, h⟩ := h))
  all_goals (subst_vars; rfl)
theorem len_law_large {A : Adr} : ∀ ds M Q E, sp_law_large A ds M Q E → ds.length = P_law_large.length := fun ds M Q E h => by
  (repeat (obtain ⟨_, h⟩ := h))
  all_goals (subst_vars; rfl)
theorem len_law_wrong : ∀ ds M Q E, sp_law_wrong ds M Q E → ds.length = P_law_wrong.length := fun ds M Q E h => by
  (repeat (obtain ⟨_, h⟩ := h))
  all_goals (subst_vars; rfl)
theorem len_law_refused {A : Adr} : ∀ ds M Q E, sp_law_refused A ds M Q E → ds.length = P_law_refused.length := fun ds M Q E h => by
  (repeat (obtain ⟨_, h⟩ := h))
  all_goals (subst_vars; rfl)
theorem len_law_whole {A : Adr} : ∀ ds M Q E, sp_law_whole A ds M Q E → ds.length = P_law_whole.length := fun ds M Q E h => by
  (repeat (obtain ⟨_, h⟩ := h))
  all_goals (subst_vars; rfl)
theorem len_law_exchanged {n : Nat} : ∀ ds M Q E, sp_law_exchanged (n + 1) ds M Q E → ds.length = P_law_exchanged.length := fun ds M Q E h => by
  (repeat (obtain ⟨_, h⟩ := h))
  all_goals (subst_vars; rfl)
theorem len_law_replaced {n : Nat} : ∀ ds M Q E, sp_law_replaced (n + 1) ds M Q E → ds.length = P_law_replaced.length := fun ds M Q E h => by
  (repeat (obtain ⟨_, h⟩ := h))
  all_goals (subst_vars; rfl)
theorem len_law {K : PySem.W.Frag} : ∀ ds M Q E, sp_law K ds M Q E → ds.length = P_law.length := fun ds M Q E h => by
  (repeat (obtain ⟨_, h⟩ := h))
  all_goals (subst_vars; rfl)
theorem all_mk {l : PySem.W.OpenLaw} {w : World} {K : PySem.W.Frag} {h : Heap} {mg : Str → Option Value} {fa ProofsError InvalidText InvalidTerm InvalidDuel OutOfRange SizeMismatch TooLarge InvalidPlan Duel f1 f2 f3 f4 f5 f6 f7 f8 f9 f10 f11 f12 f13 f14 f15 f16 f17 f18 f19 f20 f21 f22 f23 f24 f25 f26 f27 f28 f29 f30 f31 f32 f33 f34 : Addr} (X : K.In h) (G : h.Ns mainGlobals mg) (hfa : mg "law" = some (.ref fa))
    {od1 an1 od2 an2 od3 an3 od4 an4 od5 an5 od6 an6 od7 an7 od8 an8 od9 an9 od10 an10 od11 an11 od12 an12 od13 an13 od14 an14 od15 an15 od16 an16 od17 an17 od18 an18 od19 an19 od20 an20 od21 an21 od22 an22 od23 an23 od24 an24 od25 an25 od26 an26 od27 an27 od28 an28 od29 an29 od30 an30 od31 an31 od32 an32 od33 an33 od34 an34 : Option Addr} {sl1 sl2 sl3 sl4 sl5 sl6 sl7 sl8 sl9 sl10 sl11 sl12 sl13 sl14 sl15 sl16 sl17 sl18 sl19 sl20 sl21 sl22 sl23 sl24 sl25 sl26 sl27 sl28 sl29 sl30 sl31 sl32 sl33 sl34 : Array (Option Value)} {oc1 kV1 dc1 pm1 cd1 ct1 oc2 kV2 dc2 pm2 cd2 ct2 oc3 kV3 dc3 pm3 cd3 ct3 oc4 kV4 dc4 pm4 cd4 ct4 oc5 kV5 dc5 pm5 cd5 ct5 oc6 kV6 dc6 pm6 cd6 ct6 oc7 kV7 dc7 pm7 cd7 ct7 oc8 kV8 dc8 pm8 cd8 ct8 oc9 kV9 dc9 pm9 cd9 ct9 oc10 kV10 dc10 pm10 cd10 ct10 oc11 kV11 dc11 pm11 cd11 ct11 oc12 kV12 dc12 pm12 cd12 ct12 oc13 kV13 dc13 pm13 cd13 ct13 oc14 kV14 dc14 pm14 cd14 ct14 oc15 kV15 dc15 pm15 cd15 ct15 oc16 kV16 dc16 pm16 cd16 ct16 oc17 kV17 dc17 pm17 cd17 ct17 oc18 kV18 dc18 pm18 cd18 ct18 oc19 kV19 dc19 pm19 cd19 ct19 oc20 kV20 dc20 pm20 cd20 ct20 oc21 kV21 dc21 pm21 cd21 ct21 oc22 kV22 dc22 pm22 cd22 ct22 oc23 kV23 dc23 pm23 cd23 ct23 oc24 kV24 dc24 pm24 cd24 ct24 oc25 kV25 dc25 pm25 cd25 ct25 oc26 kV26 dc26 pm26 cd26 ct26 oc27 kV27 dc27 pm27 cd27 ct27 oc28 kV28 dc28 pm28 cd28 ct28 oc29 kV29 dc29 pm29 cd29 ct29 oc30 kV30 dc30 pm30 cd30 ct30 oc31 kV31 dc31 pm31 cd31 ct31 oc32 kV32 dc32 pm32 cd32 ct32 oc33 kV33 dc33 pm33 cd33 ct33 oc34 kV34 dc34 pm34 cd34 ct34 : Value}
    {tkMOST_DEPTH : Tok}
    {tkMOST_DIGITS : Tok}
    {tkMOST_LETTERS : Tok}
    {tkMOST_NUMBER : Tok}
    {tkMOST_TREES : Tok}
    {tcDuelMOST_LEAVES : Tok}
    {tcDuelMOST_LEVELS : Tok}
    {tcDuelMOST_NODES : Tok}
    (aProofsError : PySem.W.nsIn K mainGlobals "ProofsError" = some (some (.ref ProofsError)))
    (aInvalidText : PySem.W.nsIn K mainGlobals "InvalidText" = some (some (.ref InvalidText)))
    (aInvalidTerm : PySem.W.nsIn K mainGlobals "InvalidTerm" = some (some (.ref InvalidTerm)))
    (aInvalidDuel : PySem.W.nsIn K mainGlobals "InvalidDuel" = some (some (.ref InvalidDuel)))
    (aOutOfRange : PySem.W.nsIn K mainGlobals "OutOfRange" = some (some (.ref OutOfRange)))
    (aSizeMismatch : PySem.W.nsIn K mainGlobals "SizeMismatch" = some (some (.ref SizeMismatch)))
    (aTooLarge : PySem.W.nsIn K mainGlobals "TooLarge" = some (some (.ref TooLarge)))
    (aInvalidPlan : PySem.W.nsIn K mainGlobals "InvalidPlan" = some (some (.ref InvalidPlan)))
    (aDuel : PySem.W.nsIn K mainGlobals "Duel" = some (some (.ref Duel)))
    (zall : PySem.W.nsIn K mainGlobals "all" = some none)
    (zany : PySem.W.nsIn K mainGlobals "any" = some none)
    (zbool : PySem.W.nsIn K mainGlobals "bool" = some none)
    (zint : PySem.W.nsIn K mainGlobals "int" = some none)
    (zisinstance : PySem.W.nsIn K mainGlobals "isinstance" = some none)
    (zlen : PySem.W.nsIn K mainGlobals "len" = some none)
    (zlist : PySem.W.nsIn K mainGlobals "list" = some none)
    (zmin : PySem.W.nsIn K mainGlobals "min" = some none)
    (zrange : PySem.W.nsIn K mainGlobals "range" = some none)
    (zstr : PySem.W.nsIn K mainGlobals "str" = some none)
    (zsum : PySem.W.nsIn K mainGlobals "sum" = some none)
    (ztuple : PySem.W.nsIn K mainGlobals "tuple" = some none)
    (zzip : PySem.W.nsIn K mainGlobals "zip" = some none)
    (qOutOfRange : PySem.W.excIn K OutOfRange [.type "ValueError", .type "Exception", .type "BaseException", .type "object"] "ValueError.__new__" = true)
    (kOutOfRange : PySem.W.keepIn K (.ref OutOfRange) = true)
    (sOutOfRange : PySem.W.subIn K (.ref OutOfRange) (.type "BaseException") = some true)
    (tOutOfRange : PySem.W.typeIn K (.ref OutOfRange) = some (.type "type"))
    (hgOutOfRange : PySem.W.findIn K (.ref OutOfRange) "__getattribute__" = some (some (.builtin "BaseException.__getattribute__")))
    (hkOutOfRange : PySem.W.findIn K (.ref OutOfRange) "__getattr__" = some none)
    (hdOutOfRange : PySem.W.hasDictIn K OutOfRange = true)
    (haOutOfRange : PySem.W.findIn K (.ref OutOfRange) "__class__" = some (some (.builtin "object.__class__")))
    (hmOutOfRange : PySem.W.mroIn K OutOfRange (.type "object") = some true)
    (qTooLarge : PySem.W.excIn K TooLarge [.type "ValueError", .type "Exception", .type "BaseException", .type "object"] "ValueError.__new__" = true)
    (kTooLarge : PySem.W.keepIn K (.ref TooLarge) = true)
    (sTooLarge : PySem.W.subIn K (.ref TooLarge) (.type "BaseException") = some true)
    (tTooLarge : PySem.W.typeIn K (.ref TooLarge) = some (.type "type"))
    (hgTooLarge : PySem.W.findIn K (.ref TooLarge) "__getattribute__" = some (some (.builtin "BaseException.__getattribute__")))
    (hkTooLarge : PySem.W.findIn K (.ref TooLarge) "__getattr__" = some none)
    (hdTooLarge : PySem.W.hasDictIn K TooLarge = true)
    (haTooLarge : PySem.W.findIn K (.ref TooLarge) "__class__" = some (some (.builtin "object.__class__")))
    (hmTooLarge : PySem.W.mroIn K TooLarge (.type "object") = some true)
    (hn : PySem.W.specialIn K (.builtin "object.__class__") "__get__" = some (some (.builtin "getset_descriptor.__get__")))
    (ht : PySem.W.takesIn K (.builtin "object.__class__") = some true)
    (pgDuel : PySem.W.plainGet K Duel Str.empty = true)
    (hdDuel : PySem.W.hasDictIn K Duel = true)
    (poDuel : PySem.W.plainOver K Duel = true)
    (saDuel : PySem.W.findIn K (.ref Duel) "__setattr__" = some (some (.builtin "object.__setattr__")))
    (mkDuel : PySem.W.makesIn K Duel = true)
    (kcDuel : PySem.W.keepIn K (.ref Duel) = true)
    (haDuel : PySem.W.findIn K (.ref Duel) "__class__" = some (some (.builtin "object.__class__")))
    (hmDuel : PySem.W.mroIn K Duel (.type "object") = some true)
    (noDuelroot : PySem.W.findIn K (.ref Duel) "root" = some none)
    (noDueltree : PySem.W.findIn K (.ref Duel) "tree" = some none)
    (noDuelends : PySem.W.findIn K (.ref Duel) "ends" = some none)
    (noDuelsides : PySem.W.findIn K (.ref Duel) "sides" = some none)
    (noDuelchildren : PySem.W.findIn K (.ref Duel) "children" = some none)
    (zcMOST_DEPTH : PySem.W.nsIn K mainGlobals "MOST_DEPTH" = some (some (.int 200 tkMOST_DEPTH)))
    (zcMOST_DIGITS : PySem.W.nsIn K mainGlobals "MOST_DIGITS" = some (some (.int 9 tkMOST_DIGITS)))
    (zcMOST_LETTERS : PySem.W.nsIn K mainGlobals "MOST_LETTERS" = some (some (.int 12 tkMOST_LETTERS)))
    (zcMOST_NUMBER : PySem.W.nsIn K mainGlobals "MOST_NUMBER" = some (some (.int 999999999 tkMOST_NUMBER)))
    (zcMOST_TREES : PySem.W.nsIn K mainGlobals "MOST_TREES" = some (some (.int 12 tkMOST_TREES)))
    (rdDuel : PySem.W.readsIn K Duel (.type "type") = true)
    (spDuel : PySem.W.specialIn K (.ref Duel) "__getattribute__" = some (some (.builtin "type.__getattribute__")))
    (fcDuelMOST_LEAVES : PySem.W.findCls K (.ref Duel) (.type "type") "MOST_LEAVES" = some (.val (.int 200 tcDuelMOST_LEAVES)))
    (fcDuelMOST_LEVELS : PySem.W.findCls K (.ref Duel) (.type "type") "MOST_LEVELS" = some (.val (.int 20 tcDuelMOST_LEVELS)))
    (fcDuelMOST_NODES : PySem.W.findCls K (.ref Duel) (.type "type") "MOST_NODES" = some (.val (.int 200 tcDuelMOST_NODES)))
    (icInvalidTerm : PySem.W.isClsIn K InvalidTerm = true)
    (tcInvalidTerm : PySem.W.typeIn K (.ref InvalidTerm) = some (.type "type"))
    (scOutOfRangeInvalidTerm : PySem.W.subIn K (.ref OutOfRange) (.ref InvalidTerm) = some false)
    (neOutOfRangeInvalidTerm : (OutOfRange == InvalidTerm) = false)
    (icTooLarge : PySem.W.isClsIn K TooLarge = true)
    (tcTooLarge : PySem.W.typeIn K (.ref TooLarge) = some (.type "type"))
    (scOutOfRangeTooLarge : PySem.W.subIn K (.ref OutOfRange) (.ref TooLarge) = some false)
    (neOutOfRangeTooLarge : (OutOfRange == TooLarge) = false)
    (icSizeMismatch : PySem.W.isClsIn K SizeMismatch = true)
    (tcSizeMismatch : PySem.W.typeIn K (.ref SizeMismatch) = some (.type "type"))
    (scOutOfRangeSizeMismatch : PySem.W.subIn K (.ref OutOfRange) (.ref SizeMismatch) = some false)
    (neOutOfRangeSizeMismatch : (OutOfRange == SizeMismatch) = false)
    (icInvalidPlan : PySem.W.isClsIn K InvalidPlan = true)
    (tcInvalidPlan : PySem.W.typeIn K (.ref InvalidPlan) = some (.type "type"))
    (scOutOfRangeInvalidPlan : PySem.W.subIn K (.ref OutOfRange) (.ref InvalidPlan) = some false)
    (neOutOfRangeInvalidPlan : (OutOfRange == InvalidPlan) = false)
    (ssOutOfRange : PySem.W.subIn K (.ref OutOfRange) (.ref OutOfRange) = some true)
    (icOutOfRange : PySem.W.isClsIn K OutOfRange = true)
    (tcOutOfRange : PySem.W.typeIn K (.ref OutOfRange) = some (.type "type"))
    (a1 : PySem.W.nsIn K mainGlobals "is_outcome" = some (some (.ref f1)))
    (l1 : K.lookup f1 = some ⟨oc1, od1, .func (PySem.W.fnOf "is_outcome" "is_outcome" (defArgs s_is_outcome) (defBody s_is_outcome) (defScope s_is_outcome) .none kV1 dc1 pm1 an1 cd1 ct1), sl1⟩)
    (c1 : PySem.W.codeIn K cd1 "is_outcome" = true)
    (k1 : PySem.W.keepIn K (.ref f1) = true)
    (a2 : PySem.W.nsIn K mainGlobals "check_tree" = some (some (.ref f2)))
    (l2 : K.lookup f2 = some ⟨oc2, od2, .func (PySem.W.fnOf "check_tree" "check_tree" (defArgs s_check_tree) (defBody s_check_tree) (defScope s_check_tree) .none kV2 dc2 pm2 an2 cd2 ct2), sl2⟩)
    (c2 : PySem.W.codeIn K cd2 "check_tree" = true)
    (k2 : PySem.W.keepIn K (.ref f2) = true)
    (a3 : PySem.W.nsIn K mainGlobals "scan_tree" = some (some (.ref f3)))
    (l3 : K.lookup f3 = some ⟨oc3, od3, .func (PySem.W.fnOf "scan_tree" "scan_tree" (defArgs s_scan_tree) (defBody s_scan_tree) (defScope s_scan_tree) .none kV3 dc3 pm3 an3 cd3 ct3), sl3⟩)
    (c3 : PySem.W.codeIn K cd3 "scan_tree" = true)
    (k3 : PySem.W.keepIn K (.ref f3) = true)
    (a4 : PySem.W.findIn K (.ref Duel) "__init__" = some (some (.ref f4)))
    (i4 : PySem.W.isFn K (.ref f4) = true)
    (l4 : K.lookup f4 = some ⟨oc4, od4, .func (PySem.W.fnOf "__init__" "Duel.__init__" (defArgs s_Duel_init) (defBody s_Duel_init) (defScope s_Duel_init) .none kV4 dc4 pm4 an4 cd4 ct4), sl4⟩)
    (c4 : PySem.W.codeIn K cd4 "Duel.__init__" = true)
    (k4 : PySem.W.keepIn K (.ref f4) = true)
    (a5 : PySem.W.nsIn K mainGlobals "swapped_tree" = some (some (.ref f5)))
    (l5 : K.lookup f5 = some ⟨oc5, od5, .func (PySem.W.fnOf "swapped_tree" "swapped_tree" (defArgs s_swapped_tree) (defBody s_swapped_tree) (defScope s_swapped_tree) .none kV5 dc5 pm5 an5 cd5 ct5), sl5⟩)
    (c5 : PySem.W.codeIn K cd5 "swapped_tree" = true)
    (k5 : PySem.W.keepIn K (.ref f5) = true)
    (a6 : PySem.W.nsIn K mainGlobals "swapped" = some (some (.ref f6)))
    (l6 : K.lookup f6 = some ⟨oc6, od6, .func (PySem.W.fnOf "swapped" "swapped" (defArgs s_swapped) (defBody s_swapped) (defScope s_swapped) .none kV6 dc6 pm6 an6 cd6 ct6), sl6⟩)
    (c6 : PySem.W.codeIn K cd6 "swapped" = true)
    (k6 : PySem.W.keepIn K (.ref f6) = true)
    (a7 : PySem.W.nsIn K mainGlobals "entry_of" = some (some (.ref f7)))
    (l7 : K.lookup f7 = some ⟨oc7, od7, .func (PySem.W.fnOf "entry_of" "entry_of" (defArgs s_entry_of) (defBody s_entry_of) (defScope s_entry_of) .none kV7 dc7 pm7 an7 cd7 ct7), sl7⟩)
    (c7 : PySem.W.codeIn K cd7 "entry_of" = true)
    (k7 : PySem.W.keepIn K (.ref f7) = true)
    (a8 : PySem.W.nsIn K mainGlobals "winners_with" = some (some (.ref f8)))
    (l8 : K.lookup f8 = some ⟨oc8, od8, .func (PySem.W.fnOf "winners_with" "winners_with" (defArgs s_winners_with) (defBody s_winners_with) (defScope s_winners_with) .none kV8 dc8 pm8 an8 cd8 ct8), sl8⟩)
    (c8 : PySem.W.codeIn K cd8 "winners_with" = true)
    (k8 : PySem.W.keepIn K (.ref f8) = true)
    (a9 : PySem.W.nsIn K mainGlobals "winner" = some (some (.ref f9)))
    (l9 : K.lookup f9 = some ⟨oc9, od9, .func (PySem.W.fnOf "winner" "winner" (defArgs s_winner) (defBody s_winner) (defScope s_winner) .none kV9 dc9 pm9 an9 cd9 ct9), sl9⟩)
    (c9 : PySem.W.codeIn K cd9 "winner" = true)
    (k9 : PySem.W.keepIn K (.ref f9) = true)
    (a10 : PySem.W.nsIn K mainGlobals "require_leaves" = some (some (.ref f10)))
    (l10 : K.lookup f10 = some ⟨oc10, od10, .func (PySem.W.fnOf "require_leaves" "require_leaves" (defArgs s_require_leaves) (defBody s_require_leaves) (defScope s_require_leaves) .none kV10 dc10 pm10 an10 cd10 ct10), sl10⟩)
    (c10 : PySem.W.codeIn K cd10 "require_leaves" = true)
    (k10 : PySem.W.keepIn K (.ref f10) = true)
    (a11 : PySem.W.nsIn K mainGlobals "certified_outcome" = some (some (.ref f11)))
    (l11 : K.lookup f11 = some ⟨oc11, od11, .func (PySem.W.fnOf "certified_outcome" "certified_outcome" (defArgs s_certified_outcome) (defBody s_certified_outcome) (defScope s_certified_outcome) .none kV11 dc11 pm11 an11 cd11 ct11), sl11⟩)
    (c11 : PySem.W.codeIn K cd11 "certified_outcome" = true)
    (k11 : PySem.W.keepIn K (.ref f11) = true)
    (a12 : PySem.W.nsIn K mainGlobals "least_certificate" = some (some (.ref f12)))
    (l12 : K.lookup f12 = some ⟨oc12, od12, .func (PySem.W.fnOf "least_certificate" "least_certificate" (defArgs s_least_certificate) (defBody s_least_certificate) (defScope s_least_certificate) .none kV12 dc12 pm12 an12 cd12 ct12), sl12⟩)
    (c12 : PySem.W.codeIn K cd12 "least_certificate" = true)
    (k12 : PySem.W.keepIn K (.ref f12) = true)
    (a13 : PySem.W.nsIn K mainGlobals "pivot_leaves" = some (some (.ref f13)))
    (l13 : K.lookup f13 = some ⟨oc13, od13, .func (PySem.W.fnOf "pivot_leaves" "pivot_leaves" (defArgs s_pivot_leaves) (defBody s_pivot_leaves) (defScope s_pivot_leaves) .none kV13 dc13 pm13 an13 cd13 ct13), sl13⟩)
    (c13 : PySem.W.codeIn K cd13 "pivot_leaves" = true)
    (k13 : PySem.W.keepIn K (.ref f13) = true)
    (a14 : PySem.W.nsIn K mainGlobals "_law_start" = some (some (.ref f14)))
    (l14 : K.lookup f14 = some ⟨oc14, od14, .func (PySem.W.fnOf "_law_start" "_law_start" (defArgs s_law_start) (defBody s_law_start) (defScope s_law_start) .none kV14 dc14 pm14 an14 cd14 ct14), sl14⟩)
    (c14 : PySem.W.codeIn K cd14 "_law_start" = true)
    (k14 : PySem.W.keepIn K (.ref f14) = true)
    (a15 : PySem.W.nsIn K mainGlobals "_law_pick" = some (some (.ref f15)))
    (l15 : K.lookup f15 = some ⟨oc15, od15, .func (PySem.W.fnOf "_law_pick" "_law_pick" (defArgs s_law_pick) (defBody s_law_pick) (defScope s_law_pick) .none kV15 dc15 pm15 an15 cd15 ct15), sl15⟩)
    (c15 : PySem.W.codeIn K cd15 "_law_pick" = true)
    (k15 : PySem.W.keepIn K (.ref f15) = true)
    (a16 : PySem.W.nsIn K mainGlobals "_law_same" = some (some (.ref f16)))
    (l16 : K.lookup f16 = some ⟨oc16, od16, .func (PySem.W.fnOf "_law_same" "_law_same" (defArgs s_law_same) (defBody s_law_same) (defScope s_law_same) .none kV16 dc16 pm16 an16 cd16 ct16), sl16⟩)
    (c16 : PySem.W.codeIn K cd16 "_law_same" = true)
    (k16 : PySem.W.keepIn K (.ref f16) = true)
    (a17 : PySem.W.nsIn K mainGlobals "_law_tree" = some (some (.ref f17)))
    (l17 : K.lookup f17 = some ⟨oc17, od17, .func (PySem.W.fnOf "_law_tree" "_law_tree" (defArgs s_law_tree) (defBody s_law_tree) (defScope s_law_tree) .none kV17 dc17 pm17 an17 cd17 ct17), sl17⟩)
    (c17 : PySem.W.codeIn K cd17 "_law_tree" = true)
    (k17 : PySem.W.keepIn K (.ref f17) = true)
    (a18 : PySem.W.nsIn K mainGlobals "_law_scan" = some (some (.ref f18)))
    (l18 : K.lookup f18 = some ⟨oc18, od18, .func (PySem.W.fnOf "_law_scan" "_law_scan" (defArgs s_law_scan) (defBody s_law_scan) (defScope s_law_scan) .none kV18 dc18 pm18 an18 cd18 ct18), sl18⟩)
    (c18 : PySem.W.codeIn K cd18 "_law_scan" = true)
    (k18 : PySem.W.keepIn K (.ref f18) = true)
    (a19 : PySem.W.nsIn K mainGlobals "_law_at" = some (some (.ref f19)))
    (l19 : K.lookup f19 = some ⟨oc19, od19, .func (PySem.W.fnOf "_law_at" "_law_at" (defArgs s_law_at) (defBody s_law_at) (defScope s_law_at) .none kV19 dc19 pm19 an19 cd19 ct19), sl19⟩)
    (c19 : PySem.W.codeIn K cd19 "_law_at" = true)
    (k19 : PySem.W.keepIn K (.ref f19) = true)
    (a20 : PySem.W.nsIn K mainGlobals "_law_winners" = some (some (.ref f20)))
    (l20 : K.lookup f20 = some ⟨oc20, od20, .func (PySem.W.fnOf "_law_winners" "_law_winners" (defArgs s_law_winners) (defBody s_law_winners) (defScope s_law_winners) .none kV20 dc20 pm20 an20 cd20 ct20), sl20⟩)
    (c20 : PySem.W.codeIn K cd20 "_law_winners" = true)
    (k20 : PySem.W.keepIn K (.ref f20) = true)
    (a21 : PySem.W.nsIn K mainGlobals "_law_lots" = some (some (.ref f21)))
    (l21 : K.lookup f21 = some ⟨oc21, od21, .func (PySem.W.fnOf "_law_lots" "_law_lots" (defArgs s_law_lots) (defBody s_law_lots) (defScope s_law_lots) .none kV21 dc21 pm21 an21 cd21 ct21), sl21⟩)
    (c21 : PySem.W.codeIn K cd21 "_law_lots" = true)
    (k21 : PySem.W.keepIn K (.ref f21) = true)
    (a22 : PySem.W.nsIn K mainGlobals "_law_parting" = some (some (.ref f22)))
    (l22 : K.lookup f22 = some ⟨oc22, od22, .func (PySem.W.fnOf "_law_parting" "_law_parting" (defArgs s_law_parting) (defBody s_law_parting) (defScope s_law_parting) .none kV22 dc22 pm22 an22 cd22 ct22), sl22⟩)
    (c22 : PySem.W.codeIn K cd22 "_law_parting" = true)
    (k22 : PySem.W.keepIn K (.ref f22) = true)
    (a23 : PySem.W.nsIn K mainGlobals "_law_certifies" = some (some (.ref f23)))
    (l23 : K.lookup f23 = some ⟨oc23, od23, .func (PySem.W.fnOf "_law_certifies" "_law_certifies" (defArgs s_law_certifies) (defBody s_law_certifies) (defScope s_law_certifies) .none kV23 dc23 pm23 an23 cd23 ct23), sl23⟩)
    (c23 : PySem.W.codeIn K cd23 "_law_certifies" = true)
    (k23 : PySem.W.keepIn K (.ref f23) = true)
    (a24 : PySem.W.nsIn K mainGlobals "_law_small" = some (some (.ref f24)))
    (l24 : K.lookup f24 = some ⟨oc24, od24, .func (PySem.W.fnOf "_law_small" "_law_small" (defArgs s_law_small) (defBody s_law_small) (defScope s_law_small) .none kV24 dc24 pm24 an24 cd24 ct24), sl24⟩)
    (c24 : PySem.W.codeIn K cd24 "_law_small" = true)
    (k24 : PySem.W.keepIn K (.ref f24) = true)
    (a25 : PySem.W.nsIn K mainGlobals "_law_fewest" = some (some (.ref f25)))
    (l25 : K.lookup f25 = some ⟨oc25, od25, .func (PySem.W.fnOf "_law_fewest" "_law_fewest" (defArgs s_law_fewest) (defBody s_law_fewest) (defScope s_law_fewest) .none kV25 dc25 pm25 an25 cd25 ct25), sl25⟩)
    (c25 : PySem.W.codeIn K cd25 "_law_fewest" = true)
    (k25 : PySem.W.keepIn K (.ref f25) = true)
    (a26 : PySem.W.nsIn K mainGlobals "_law_two" = some (some (.ref f26)))
    (l26 : K.lookup f26 = some ⟨oc26, od26, .func (PySem.W.fnOf "_law_two" "_law_two" (defArgs s_law_two) (defBody s_law_two) (defScope s_law_two) .none kV26 dc26 pm26 an26 cd26 ct26), sl26⟩)
    (c26 : PySem.W.codeIn K cd26 "_law_two" = true)
    (k26 : PySem.W.keepIn K (.ref f26) = true)
    (a27 : PySem.W.nsIn K mainGlobals "_law_deciding" = some (some (.ref f27)))
    (l27 : K.lookup f27 = some ⟨oc27, od27, .func (PySem.W.fnOf "_law_deciding" "_law_deciding" (defArgs s_law_deciding) (defBody s_law_deciding) (defScope s_law_deciding) .none kV27 dc27 pm27 an27 cd27 ct27), sl27⟩)
    (c27 : PySem.W.codeIn K cd27 "_law_deciding" = true)
    (k27 : PySem.W.keepIn K (.ref f27) = true)
    (a28 : PySem.W.nsIn K mainGlobals "_law_large" = some (some (.ref f28)))
    (l28 : K.lookup f28 = some ⟨oc28, od28, .func (PySem.W.fnOf "_law_large" "_law_large" (defArgs s_law_large) (defBody s_law_large) (defScope s_law_large) .none kV28 dc28 pm28 an28 cd28 ct28), sl28⟩)
    (c28 : PySem.W.codeIn K cd28 "_law_large" = true)
    (k28 : PySem.W.keepIn K (.ref f28) = true)
    (a29 : PySem.W.nsIn K mainGlobals "_law_wrong" = some (some (.ref f29)))
    (l29 : K.lookup f29 = some ⟨oc29, od29, .func (PySem.W.fnOf "_law_wrong" "_law_wrong" (defArgs s_law_wrong) (defBody s_law_wrong) (defScope s_law_wrong) .none kV29 dc29 pm29 an29 cd29 ct29), sl29⟩)
    (c29 : PySem.W.codeIn K cd29 "_law_wrong" = true)
    (k29 : PySem.W.keepIn K (.ref f29) = true)
    (a30 : PySem.W.nsIn K mainGlobals "_law_refused" = some (some (.ref f30)))
    (l30 : K.lookup f30 = some ⟨oc30, od30, .func (PySem.W.fnOf "_law_refused" "_law_refused" (defArgs s_law_refused) (defBody s_law_refused) (defScope s_law_refused) .none kV30 dc30 pm30 an30 cd30 ct30), sl30⟩)
    (c30 : PySem.W.codeIn K cd30 "_law_refused" = true)
    (k30 : PySem.W.keepIn K (.ref f30) = true)
    (a31 : PySem.W.nsIn K mainGlobals "_law_whole" = some (some (.ref f31)))
    (l31 : K.lookup f31 = some ⟨oc31, od31, .func (PySem.W.fnOf "_law_whole" "_law_whole" (defArgs s_law_whole) (defBody s_law_whole) (defScope s_law_whole) .none kV31 dc31 pm31 an31 cd31 ct31), sl31⟩)
    (c31 : PySem.W.codeIn K cd31 "_law_whole" = true)
    (k31 : PySem.W.keepIn K (.ref f31) = true)
    (a32 : PySem.W.nsIn K mainGlobals "_law_exchanged" = some (some (.ref f32)))
    (l32 : K.lookup f32 = some ⟨oc32, od32, .func (PySem.W.fnOf "_law_exchanged" "_law_exchanged" (defArgs s_law_exchanged) (defBody s_law_exchanged) (defScope s_law_exchanged) .none kV32 dc32 pm32 an32 cd32 ct32), sl32⟩)
    (c32 : PySem.W.codeIn K cd32 "_law_exchanged" = true)
    (k32 : PySem.W.keepIn K (.ref f32) = true)
    (a33 : PySem.W.nsIn K mainGlobals "_law_replaced" = some (some (.ref f33)))
    (l33 : K.lookup f33 = some ⟨oc33, od33, .func (PySem.W.fnOf "_law_replaced" "_law_replaced" (defArgs s_law_replaced) (defBody s_law_replaced) (defScope s_law_replaced) .none kV33 dc33 pm33 an33 cd33 ct33), sl33⟩)
    (c33 : PySem.W.codeIn K cd33 "_law_replaced" = true)
    (k33 : PySem.W.keepIn K (.ref f33) = true)
    (a34 : PySem.W.nsIn K mainGlobals "law" = some (some (.ref f34)))
    (l34 : K.lookup f34 = some ⟨oc34, od34, .func (PySem.W.fnOf "law" "law" (defArgs s_law) (defBody s_law) (defScope s_law) .none kV34 dc34 pm34 an34 cd34 ct34), sl34⟩)
    (c34 : PySem.W.codeIn K cd34 "law" = true)
    (k34 : PySem.W.keepIn K (.ref f34) = true)
    : ∃ fd : FuncData, (∀ (s : Shared) (v : Value), BindsTo s fd ⟨[v], []⟩ [("script", v)]) ∧ ∀ base : Heap, K.In base → base.Ns mainGlobals mg → FnOk l.prog w K mg base (L2.CX l.prog w) 28 fa fd ["script"] (liftSp K (spScript K)) := by
  have e := hfa.symm.trans (PySem.W.mg_of X G a34)
  cases e
  let A : Adr := ⟨ProofsError, InvalidText, InvalidTerm, InvalidDuel, OutOfRange, SizeMismatch, TooLarge, InvalidPlan, Duel⟩
  have clDuel : Cls K Duel := ⟨pgDuel, hdDuel, poDuel, saDuel⟩
  have T : Txt w K mg A := {
    n_all := PySem.W.mg_none_of X G zall
    n_any := PySem.W.mg_none_of X G zany
    n_bool := PySem.W.mg_none_of X G zbool
    n_int := PySem.W.mg_none_of X G zint
    n_isinstance := PySem.W.mg_none_of X G zisinstance
    n_len := PySem.W.mg_none_of X G zlen
    n_list := PySem.W.mg_none_of X G zlist
    n_min := PySem.W.mg_none_of X G zmin
    n_range := PySem.W.mg_none_of X G zrange
    n_str := PySem.W.mg_none_of X G zstr
    n_sum := PySem.W.mg_none_of X G zsum
    n_tuple := PySem.W.mg_none_of X G ztuple
    n_zip := PySem.W.mg_none_of X G zzip
    m_ProofsError := PySem.W.mg_of X G aProofsError
    m_InvalidText := PySem.W.mg_of X G aInvalidText
    m_InvalidTerm := PySem.W.mg_of X G aInvalidTerm
    m_InvalidDuel := PySem.W.mg_of X G aInvalidDuel
    m_OutOfRange := PySem.W.mg_of X G aOutOfRange
    m_SizeMismatch := PySem.W.mg_of X G aSizeMismatch
    m_TooLarge := PySem.W.mg_of X G aTooLarge
    m_InvalidPlan := PySem.W.mg_of X G aInvalidPlan
    x_OutOfRange := ⟨qOutOfRange, PySem.W.mg_of X G aOutOfRange, kOutOfRange, sOutOfRange, tOutOfRange⟩
    x_TooLarge := ⟨qTooLarge, PySem.W.mg_of X G aTooLarge, kTooLarge, sTooLarge, tTooLarge⟩
    m_Duel := PySem.W.mg_of X G aDuel
    i_Duel := ⟨clDuel, haDuel, hn, ht, hmDuel⟩
    d_Duel_root := ⟨clDuel, noDuelroot⟩
    d_Duel_tree := ⟨clDuel, noDueltree⟩
    d_Duel_ends := ⟨clDuel, noDuelends⟩
    d_Duel_sides := ⟨clDuel, noDuelsides⟩
    d_Duel_children := ⟨clDuel, noDuelchildren⟩
    c_MOST_DEPTH := ⟨_, PySem.W.mg_of X G zcMOST_DEPTH⟩
    c_MOST_DIGITS := ⟨_, PySem.W.mg_of X G zcMOST_DIGITS⟩
    c_MOST_LETTERS := ⟨_, PySem.W.mg_of X G zcMOST_LETTERS⟩
    c_MOST_NUMBER := ⟨_, PySem.W.mg_of X G zcMOST_NUMBER⟩
    c_MOST_TREES := ⟨_, PySem.W.mg_of X G zcMOST_TREES⟩
    cst_Duel_MOST_LEAVES := CstK.int rdDuel spDuel fcDuelMOST_LEAVES
    cst_Duel_MOST_LEVELS := CstK.int rdDuel spDuel fcDuelMOST_LEVELS
    cst_Duel_MOST_NODES := CstK.int rdDuel spDuel fcDuelMOST_NODES }
  have HX : KX K A := ⟨exm_sub sOutOfRange icOutOfRange tcOutOfRange ssOutOfRange, ⟨hgOutOfRange, hkOutOfRange, sOutOfRange, hdOutOfRange, haOutOfRange, hn, ht, hmOutOfRange⟩, kit_ne neOutOfRangeInvalidTerm icInvalidTerm tcInvalidTerm scOutOfRangeInvalidTerm, kit_ne neOutOfRangeSizeMismatch icSizeMismatch tcSizeMismatch scOutOfRangeSizeMismatch, kit_ne neOutOfRangeTooLarge icTooLarge tcTooLarge scOutOfRangeTooLarge, kit_ne neOutOfRangeInvalidPlan icInvalidPlan tcInvalidPlan scOutOfRangeInvalidPlan⟩
  have F1 := fun_mk (st := s_is_outcome) l1 c1 k1
  have b1 := F1.binds (ps := P_is_outcome) fun _ _ _ _ _ _ us hl => match us, hl with | [_], _ => rfl
  have F2 := fun_mk (st := s_check_tree) l2 c2 k2
  have b2 := F2.binds (ps := P_check_tree) fun _ _ _ _ _ _ us hl => match us, hl with | [_, _, _], _ => rfl
  have F3 := fun_mk (st := s_scan_tree) l3 c3 k3
  have b3 := F3.binds (ps := P_scan_tree) fun _ _ _ _ _ _ us hl => match us, hl with | [_, _, _, _], _ => rfl
  have F4 := fun_mk (st := s_Duel_init) l4 c4 k4
  have b4 := F4.binds (ps := P_Duel_init) fun _ _ _ _ _ _ us hl => match us, hl with | [_, _], _ => rfl
  have F5 := fun_mk (st := s_swapped_tree) l5 c5 k5
  have b5 := F5.binds (ps := P_swapped_tree) fun _ _ _ _ _ _ us hl => match us, hl with | [_], _ => rfl
  have F6 := fun_mk (st := s_swapped) l6 c6 k6
  have b6 := F6.binds (ps := P_swapped) fun _ _ _ _ _ _ us hl => match us, hl with | [_], _ => rfl
  have F7 := fun_mk (st := s_entry_of) l7 c7 k7
  have b7 := F7.binds (ps := P_entry_of) fun _ _ _ _ _ _ us hl => match us, hl with | [_, _, _], _ => rfl
  have F8 := fun_mk (st := s_winners_with) l8 c8 k8
  have b8 := F8.binds (ps := P_winners_with) fun _ _ _ _ _ _ us hl => match us, hl with | [_, _], _ => rfl
  have F9 := fun_mk (st := s_winner) l9 c9 k9
  have b9 := F9.binds (ps := P_winner) fun _ _ _ _ _ _ us hl => match us, hl with | [_], _ => rfl
  have F10 := fun_mk (st := s_require_leaves) l10 c10 k10
  have b10 := F10.binds (ps := P_require_leaves) fun _ _ _ _ _ _ us hl => match us, hl with | [_, _], _ => rfl
  have F11 := fun_mk (st := s_certified_outcome) l11 c11 k11
  have b11 := F11.binds (ps := P_certified_outcome) fun _ _ _ _ _ _ us hl => match us, hl with | [_, _], _ => rfl
  have F12 := fun_mk (st := s_least_certificate) l12 c12 k12
  have b12 := F12.binds (ps := P_least_certificate) fun _ _ _ _ _ _ us hl => match us, hl with | [_], _ => rfl
  have F13 := fun_mk (st := s_pivot_leaves) l13 c13 k13
  have b13 := F13.binds (ps := P_pivot_leaves) fun _ _ _ _ _ _ us hl => match us, hl with | [_], _ => rfl
  have F14 := fun_mk (st := s_law_start) l14 c14 k14
  have b14 := F14.binds (ps := P_law_start) fun _ _ _ _ _ _ us hl => match us, hl with | [_], _ => rfl
  have F15 := fun_mk (st := s_law_pick) l15 c15 k15
  have b15 := F15.binds (ps := P_law_pick) fun _ _ _ _ _ _ us hl => match us, hl with | [_, _], _ => rfl
  have F16 := fun_mk (st := s_law_same) l16 c16 k16
  have b16 := F16.binds (ps := P_law_same) fun _ _ _ _ _ _ us hl => match us, hl with | [_, _], _ => rfl
  have F17 := fun_mk (st := s_law_tree) l17 c17 k17
  have b17 := F17.binds (ps := P_law_tree) fun _ _ _ _ _ _ us hl => match us, hl with | [_, _, _], _ => rfl
  have F18 := fun_mk (st := s_law_scan) l18 c18 k18
  have b18 := F18.binds (ps := P_law_scan) fun _ _ _ _ _ _ us hl => match us, hl with | [_, _, _], _ => rfl
  have F19 := fun_mk (st := s_law_at) l19 c19 k19
  have b19 := F19.binds (ps := P_law_at) fun _ _ _ _ _ _ us hl => match us, hl with | [_, _, _], _ => rfl
  have F20 := fun_mk (st := s_law_winners) l20 c20 k20
  have b20 := F20.binds (ps := P_law_winners) fun _ _ _ _ _ _ us hl => match us, hl with | [_, _], _ => rfl
  have F21 := fun_mk (st := s_law_lots) l21 c21 k21
  have b21 := F21.binds (ps := P_law_lots) fun _ _ _ _ _ _ us hl => match us, hl with | [_, _], _ => rfl
  have F22 := fun_mk (st := s_law_parting) l22 c22 k22
  have b22 := F22.binds (ps := P_law_parting) fun _ _ _ _ _ _ us hl => match us, hl with | [_, _, _], _ => rfl
  have F23 := fun_mk (st := s_law_certifies) l23 c23 k23
  have b23 := F23.binds (ps := P_law_certifies) fun _ _ _ _ _ _ us hl => match us, hl with | [_, _], _ => rfl
  have F24 := fun_mk (st := s_law_small) l24 c24 k24
  have b24 := F24.binds (ps := P_law_small) fun _ _ _ _ _ _ us hl => match us, hl with | [_, _, _, _], _ => rfl
  have F25 := fun_mk (st := s_law_fewest) l25 c25 k25
  have b25 := F25.binds (ps := P_law_fewest) fun _ _ _ _ _ _ us hl => match us, hl with | [_, _], _ => rfl
  have F26 := fun_mk (st := s_law_two) l26 c26 k26
  have b26 := F26.binds (ps := P_law_two) fun _ _ _ _ _ _ us hl => match us, hl with | [_, _, _, _], _ => rfl
  have F27 := fun_mk (st := s_law_deciding) l27 c27 k27
  have b27 := F27.binds (ps := P_law_deciding) fun _ _ _ _ _ _ us hl => match us, hl with | [_, _, _, _], _ => rfl
  have F28 := fun_mk (st := s_law_large) l28 c28 k28
  have b28 := F28.binds (ps := P_law_large) fun _ _ _ _ _ _ us hl => match us, hl with | [_, _, _, _, _, _], _ => rfl
  have F29 := fun_mk (st := s_law_wrong) l29 c29 k29
  have b29 := F29.binds (ps := P_law_wrong) fun _ _ _ _ _ _ us hl => match us, hl with | [_, _, _], _ => rfl
  have F30 := fun_mk (st := s_law_refused) l30 c30 k30
  have b30 := F30.binds (ps := P_law_refused) fun _ _ _ _ _ _ us hl => match us, hl with | [_, _], _ => rfl
  have F31 := fun_mk (st := s_law_whole) l31 c31 k31
  have b31 := F31.binds (ps := P_law_whole) fun _ _ _ _ _ _ us hl => match us, hl with | [_, _, _], _ => rfl
  have F32 := fun_mk (st := s_law_exchanged) l32 c32 k32
  have b32 := F32.binds (ps := P_law_exchanged) fun _ _ _ _ _ _ us hl => match us, hl with | [_], _ => rfl
  have F33 := fun_mk (st := s_law_replaced) l33 c33 k33
  have b33 := F33.binds (ps := P_law_replaced) fun _ _ _ _ _ _ us hl => match us, hl with | [_, _, _], _ => rfl
  have F34 := fun_mk (st := s_law) l34 c34 k34
  have b34 := F34.binds (ps := P_law) fun _ _ _ _ _ _ us hl => match us, hl with | [_], _ => rfl
  refine ⟨PySem.W.fnOf "law" "law" (defArgs s_law) (defBody s_law) (defScope s_law) .none kV34 dc34 pm34 an34 cd34 ct34, fun s v => .of_eq rfl, fun base _ _ => ?_⟩
  have O1 : FnOk l.prog w K mg base (L2.CX l.prog w) 1 f1 _ P_is_outcome (liftSp K (sp_is_outcome)) := ok_is_outcome T  F1 (sp_is_outcome) len_is_outcome r_is_outcome
  have G_is_outcome : FnD l.prog w K mg base 1 "is_outcome" P_is_outcome [] (sp_is_outcome) := fnd_mk F1 (PySem.W.mg_of X G a1) b1 O1
  have O2 : FnOk l.prog w K mg base (L2.CX l.prog w) 2 f2 _ P_check_tree (liftSp K (sp_check_tree)) := ok_check_tree T G_is_outcome F2 (sp_check_tree) len_check_tree r_check_tree
  have G_check_tree : FnD l.prog w K mg base 2 "check_tree" P_check_tree [] (sp_check_tree) := fnd_mk F2 (PySem.W.mg_of X G a2) b2 O2
  have GG_scan_tree : ∀ n, FnD l.prog w K mg base (2 + n) "scan_tree" P_scan_tree [] (sp_scan_tree n) := fun n => by
    induction n with
    | zero => exact fnd_mk F3 (PySem.W.mg_of X G a3) b3 (fnOk_not fun ds M Q E h => by first | exact h.elim | ((repeat (obtain ⟨_, h⟩ := h)); omega))
    | succ n ih => exact fnd_mk F3 (PySem.W.mg_of X G a3) b3 (ok_scan_tree T G_check_tree ih F3 (sp_scan_tree (n + 1)) len_scan_tree r_scan_tree)
  have G_scan_tree := GG_scan_tree 22
  have O4 : FnOk l.prog w K mg base (L2.CX l.prog w) 25 f4 _ P_Duel_init (liftSp K (sp_Duel_init A.Duel)) := ok_Duel_init T G_scan_tree F4 (sp_Duel_init A.Duel) len_Duel_init (r_Duel_init T)
  have G_Duel_init : MakD l.prog w K mg base 25 "Duel" A.Duel P_Duel_init [] (sp_Duel_init A.Duel) := ⟨f4, _, [], [], ⟨mkDuel, a4, i4, kcDuel⟩, PySem.W.mg_of X G aDuel, O4, b4, .nil, fun _ => .nil⟩
  have GG_swapped_tree : ∀ n, FnD l.prog w K mg base (0 + n) "swapped_tree" P_swapped_tree [] (sp_swapped_tree n) := fun n => by
    induction n with
    | zero => exact fnd_mk F5 (PySem.W.mg_of X G a5) b5 (fnOk_not fun ds M Q E h => by first | exact h.elim | ((repeat (obtain ⟨_, h⟩ := h)); omega))
    | succ n ih => exact fnd_mk F5 (PySem.W.mg_of X G a5) b5 (ok_swapped_tree T ih F5 (sp_swapped_tree (n + 1)) len_swapped_tree r_swapped_tree)
  have G_swapped_tree := GG_swapped_tree 22
  have O6 : FnOk l.prog w K mg base (L2.CX l.prog w) 27 f6 _ P_swapped (liftSp K (sp_swapped A.Duel)) := ok_swapped T G_Duel_init G_swapped_tree F6 (sp_swapped A.Duel) len_swapped (r_swapped T)
  have G_swapped : FnD l.prog w K mg base 27 "swapped" P_swapped [] (sp_swapped A.Duel) := fnd_mk F6 (PySem.W.mg_of X G a6) b6 O6
  have O7 : FnOk l.prog w K mg base (L2.CX l.prog w) 1 f7 _ P_entry_of (liftSp K (sp_entry_of)) := ok_entry_of T  F7 (sp_entry_of) len_entry_of r_entry_of
  have G_entry_of : FnD l.prog w K mg base 1 "entry_of" P_entry_of [] (sp_entry_of) := fnd_mk F7 (PySem.W.mg_of X G a7) b7 O7
  have O8 : FnOk l.prog w K mg base (L2.CX l.prog w) 2 f8 _ P_winners_with (liftSp K (sp_winners_with A.Duel)) := ok_winners_with T G_entry_of F8 (sp_winners_with A.Duel) len_winners_with (r_winners_with T)
  have G_winners_with : FnD l.prog w K mg base 2 "winners_with" P_winners_with [] (sp_winners_with A.Duel) := fnd_mk F8 (PySem.W.mg_of X G a8) b8 O8
  have O9 : FnOk l.prog w K mg base (L2.CX l.prog w) 3 f9 _ P_winner (liftSp K (sp_winner A.Duel)) := ok_winner T G_entry_of G_winners_with F9 (sp_winner A.Duel) len_winner (r_winner T)
  have G_winner : FnD l.prog w K mg base 3 "winner" P_winner [] (sp_winner A.Duel) := fnd_mk F9 (PySem.W.mg_of X G a9) b9 O9
  have O10 : FnOk l.prog w K mg base (L2.CX l.prog w) 1 f10 _ P_require_leaves (liftSp K (sp_require_leaves A)) := ok_require_leaves T  F10 (sp_require_leaves A) len_require_leaves (r_require_leaves T)
  have G_require_leaves : FnD l.prog w K mg base 1 "require_leaves" P_require_leaves [] (sp_require_leaves A) := fnd_mk F10 (PySem.W.mg_of X G a10) b10 O10
  have O11 : FnOk l.prog w K mg base (L2.CX l.prog w) 3 f11 _ P_certified_outcome (liftSp K (sp_certified_outcome A)) := ok_certified_outcome T G_entry_of G_require_leaves G_winners_with F11 (sp_certified_outcome A) len_certified_outcome (r_certified_outcome T)
  have G_certified_outcome : FnD l.prog w K mg base 3 "certified_outcome" P_certified_outcome [] (sp_certified_outcome A) := fnd_mk F11 (PySem.W.mg_of X G a11) b11 O11
  have O12 : FnOk l.prog w K mg base (L2.CX l.prog w) 3 f12 _ P_least_certificate (liftSp K (sp_least_certificate A.Duel)) := ok_least_certificate T G_entry_of G_winners_with F12 (sp_least_certificate A.Duel) len_least_certificate (r_least_certificate T)
  have G_least_certificate : FnD l.prog w K mg base 3 "least_certificate" P_least_certificate [] (sp_least_certificate A.Duel) := fnd_mk F12 (PySem.W.mg_of X G a12) b12 O12
  have O13 : FnOk l.prog w K mg base (L2.CX l.prog w) 4 f13 _ P_pivot_leaves (liftSp K (sp_pivot_leaves A.Duel)) := ok_pivot_leaves T G_entry_of G_winner G_winners_with F13 (sp_pivot_leaves A.Duel) len_pivot_leaves (r_pivot_leaves T)
  have G_pivot_leaves : FnD l.prog w K mg base 4 "pivot_leaves" P_pivot_leaves [] (sp_pivot_leaves A.Duel) := fnd_mk F13 (PySem.W.mg_of X G a13) b13 O13
  have O14 : FnOk l.prog w K mg base (L2.CX l.prog w) 1 f14 _ P_law_start (liftSp K (sp_law_start K)) := fnOk_or (ok_law_start T F14 sp_law_start1 (fun ds M Q E h => by (repeat (obtain ⟨_, h⟩ := h)); subst_vars; rfl) r_law_start) (ok_law_startK T F14 (sp_law_start2 K) (fun ds M Q E h => by (repeat (obtain ⟨_, h⟩ := h)); subst_vars; rfl) r_law_startK) (fun ds M Q E ⟨a, ns, e, h, r⟩ => h.elim (fun h => .inl ⟨a, ns, e, h, r⟩) fun h => .inr ⟨a, ns, e, h, r⟩)
  have G_law_start : FnD l.prog w K mg base 1 "_law_start" P_law_start [] (sp_law_start K) := fnd_mk F14 (PySem.W.mg_of X G a14) b14 O14
  have O15 : FnOk l.prog w K mg base (L2.CX l.prog w) 1 f15 _ P_law_pick (liftSp K (sp_law_pick)) := ok_law_pick T  F15 (sp_law_pick) len_law_pick r_law_pick
  have G_law_pick : FnD l.prog w K mg base 1 "_law_pick" P_law_pick [] (sp_law_pick) := fnd_mk F15 (PySem.W.mg_of X G a15) b15 O15
  have GG_law_same : ∀ n, FnD l.prog w K mg base (0 + n) "_law_same" P_law_same [] (sp_law_same n) := fun n => by
    induction n with
    | zero => exact fnd_mk F16 (PySem.W.mg_of X G a16) b16 (fnOk_not fun ds M Q E h => by first | exact h.elim | ((repeat (obtain ⟨_, h⟩ := h)); omega))
    | succ n ih => exact fnd_mk F16 (PySem.W.mg_of X G a16) b16 (ok_law_same T ih F16 (sp_law_same (n + 1)) len_law_same r_law_same)
  have G_law_same := GG_law_same 24
  have GG_law_tree : ∀ n, FnD l.prog w K mg base (1 + n) "_law_tree" P_law_tree [] (sp_law_tree n) := fun n => by
    induction n with
    | zero => exact fnd_mk F17 (PySem.W.mg_of X G a17) b17 (fnOk_not fun ds M Q E h => by first | exact h.elim | ((repeat (obtain ⟨_, h⟩ := h)); omega))
    | succ n ih => exact fnd_mk F17 (PySem.W.mg_of X G a17) b17 (ok_law_tree T G_law_pick ih F17 (sp_law_tree (n + 1)) len_law_tree r_law_tree)
  have G_law_tree := GG_law_tree 22
  have GG_law_scan : ∀ n, FnD l.prog w K mg base (0 + n) "_law_scan" P_law_scan [] (sp_law_scan n) := fun n => by
    induction n with
    | zero => exact fnd_mk F18 (PySem.W.mg_of X G a18) b18 (fnOk_not fun ds M Q E h => by first | exact h.elim | ((repeat (obtain ⟨_, h⟩ := h)); omega))
    | succ n ih => exact fnd_mk F18 (PySem.W.mg_of X G a18) b18 (ok_law_scan T ih F18 (sp_law_scan (n + 1)) len_law_scan r_law_scan)
  have G_law_scan := GG_law_scan 22
  have O19 : FnOk l.prog w K mg base (L2.CX l.prog w) 1 f19 _ P_law_at (liftSp K (sp_law_at)) := ok_law_at T  F19 (sp_law_at) len_law_at r_law_at
  have G_law_at : FnD l.prog w K mg base 1 "_law_at" P_law_at [] (sp_law_at) := fnd_mk F19 (PySem.W.mg_of X G a19) b19 O19
  have O20 : FnOk l.prog w K mg base (L2.CX l.prog w) 2 f20 _ P_law_winners (liftSp K (sp_law_winners)) := ok_law_winners T G_law_at F20 (sp_law_winners) len_law_winners r_law_winners
  have G_law_winners : FnD l.prog w K mg base 2 "_law_winners" P_law_winners [] (sp_law_winners) := fnd_mk F20 (PySem.W.mg_of X G a20) b20 O20
  have GG_law_lots : ∀ n, FnD l.prog w K mg base (0 + n) "_law_lots" P_law_lots [] (sp_law_lots n) := fun n => by
    induction n with
    | zero => exact fnd_mk F21 (PySem.W.mg_of X G a21) b21 (fnOk_not fun ds M Q E h => by first | exact h.elim | ((repeat (obtain ⟨_, h⟩ := h)); omega))
    | succ n ih => exact fnd_mk F21 (PySem.W.mg_of X G a21) b21 (ok_law_lots T ih F21 (sp_law_lots (n + 1)) len_law_lots r_law_lots)
  have G_law_lots := GG_law_lots 8
  have O22 : FnOk l.prog w K mg base (L2.CX l.prog w) 3 f22 _ P_law_parting (liftSp K (sp_law_parting)) := ok_law_parting T G_law_at G_law_winners F22 (sp_law_parting) len_law_parting r_law_parting
  have G_law_parting : FnD l.prog w K mg base 3 "_law_parting" P_law_parting [] (sp_law_parting) := fnd_mk F22 (PySem.W.mg_of X G a22) b22 O22
  have O23 : FnOk l.prog w K mg base (L2.CX l.prog w) 1 f23 _ P_law_certifies (liftSp K (sp_law_certifies)) := ok_law_certifies T  F23 (sp_law_certifies) len_law_certifies r_law_certifies
  have G_law_certifies : FnD l.prog w K mg base 1 "_law_certifies" P_law_certifies [] (sp_law_certifies) := fnd_mk F23 (PySem.W.mg_of X G a23) b23 O23
  have O24 : FnOk l.prog w K mg base (L2.CX l.prog w) 25 f24 _ P_law_small (liftSp K (sp_law_small A)) := ok_law_small T G_law_at G_law_certifies G_law_lots G_law_parting G_law_same G_law_winners G_certified_outcome G_least_certificate G_pivot_leaves F24 (sp_law_small A) len_law_small (r_law_small T)
  have G_law_small : FnD l.prog w K mg base 25 "_law_small" P_law_small [] (sp_law_small A) := fnd_mk F24 (PySem.W.mg_of X G a24) b24 O24
  have GG_law_fewest : ∀ n, FnD l.prog w K mg base (0 + n) "_law_fewest" P_law_fewest [] (sp_law_fewest n) := fun n => by
    induction n with
    | zero => exact fnd_mk F25 (PySem.W.mg_of X G a25) b25 (fnOk_not fun ds M Q E h => by first | exact h.elim | ((repeat (obtain ⟨_, h⟩ := h)); omega))
    | succ n ih => exact fnd_mk F25 (PySem.W.mg_of X G a25) b25 (ok_law_fewest T ih F25 (sp_law_fewest (n + 1)) len_law_fewest r_law_fewest)
  have G_law_fewest := GG_law_fewest 22
  have O26 : FnOk l.prog w K mg base (L2.CX l.prog w) 3 f26 _ P_law_two (liftSp K (sp_law_two)) := ok_law_two T G_law_at G_law_winners F26 (sp_law_two) len_law_two r_law_two
  have G_law_two : FnD l.prog w K mg base 3 "_law_two" P_law_two [] (sp_law_two) := fnd_mk F26 (PySem.W.mg_of X G a26) b26 O26
  have GG_law_deciding : ∀ n, FnD l.prog w K mg base (1 + n) "_law_deciding" P_law_deciding [] (sp_law_deciding n) := fun n => by
    induction n with
    | zero => exact fnd_mk F27 (PySem.W.mg_of X G a27) b27 (fnOk_not fun ds M Q E h => by first | exact h.elim | ((repeat (obtain ⟨_, h⟩ := h)); omega))
    | succ n ih => exact fnd_mk F27 (PySem.W.mg_of X G a27) b27 (ok_law_deciding T G_law_at ih F27 (sp_law_deciding (n + 1)) len_law_deciding r_law_deciding)
  have G_law_deciding := GG_law_deciding 22
  have O28 : FnOk l.prog w K mg base (L2.CX l.prog w) 25 f28 _ P_law_large (liftSp K (sp_law_large A)) := ok_law_large T G_law_deciding G_law_fewest G_law_pick G_law_same G_law_two G_law_winners G_certified_outcome G_least_certificate G_pivot_leaves F28 (sp_law_large A) len_law_large (r_law_large T)
  have G_law_large : FnD l.prog w K mg base 25 "_law_large" P_law_large [] (sp_law_large A) := fnd_mk F28 (PySem.W.mg_of X G a28) b28 O28
  have O29 : FnOk l.prog w K mg base (L2.CX l.prog w) 2 f29 _ P_law_wrong (liftSp K (sp_law_wrong)) := ok_law_wrong T G_law_pick F29 (sp_law_wrong) len_law_wrong r_law_wrong
  have G_law_wrong : FnD l.prog w K mg base 2 "_law_wrong" P_law_wrong [] (sp_law_wrong) := fnd_mk F29 (PySem.W.mg_of X G a29) b29 O29
  have O30 : FnOk l.prog w K mg base (L2.CX l.prog w) 4 f30 _ P_law_refused (liftSp K (sp_law_refused A)) := ok_law_refused T G_certified_outcome F30 (sp_law_refused A) len_law_refused (r_law_refused HX)
  have G_law_refused : FnD l.prog w K mg base 4 "_law_refused" P_law_refused [] (sp_law_refused A) := fnd_mk F30 (PySem.W.mg_of X G a30) b30 O30
  have O31 : FnOk l.prog w K mg base (L2.CX l.prog w) 26 f31 _ P_law_whole (liftSp K (sp_law_whole A)) := ok_law_whole T G_law_fewest G_law_large G_law_refused G_law_scan G_law_small G_law_wrong F31 (sp_law_whole A) len_law_whole r_law_whole
  have G_law_whole : FnD l.prog w K mg base 26 "_law_whole" P_law_whole [] (sp_law_whole A) := fnd_mk F31 (PySem.W.mg_of X G a31) b31 O31
  have GG_law_exchanged : ∀ n, FnD l.prog w K mg base (0 + n) "_law_exchanged" P_law_exchanged [] (sp_law_exchanged n) := fun n => by
    induction n with
    | zero => exact fnd_mk F32 (PySem.W.mg_of X G a32) b32 (fnOk_not fun ds M Q E h => by first | exact h.elim | ((repeat (obtain ⟨_, h⟩ := h)); omega))
    | succ n ih => exact fnd_mk F32 (PySem.W.mg_of X G a32) b32 (ok_law_exchanged T ih F32 (sp_law_exchanged (n + 1)) len_law_exchanged r_law_exchanged)
  have G_law_exchanged := GG_law_exchanged 22
  have GG_law_replaced : ∀ n, FnD l.prog w K mg base (0 + n) "_law_replaced" P_law_replaced [] (sp_law_replaced n) := fun n => by
    induction n with
    | zero => exact fnd_mk F33 (PySem.W.mg_of X G a33) b33 (fnOk_not fun ds M Q E h => by first | exact h.elim | ((repeat (obtain ⟨_, h⟩ := h)); omega))
    | succ n ih => exact fnd_mk F33 (PySem.W.mg_of X G a33) b33 (ok_law_replaced T ih F33 (sp_law_replaced (n + 1)) len_law_replaced r_law_replaced)
  have G_law_replaced := GG_law_replaced 22
  exact ok_law T G_Duel_init G_law_exchanged G_law_fewest G_law_pick G_law_replaced G_law_same G_law_scan G_law_start G_law_tree G_law_two G_law_whole G_certified_outcome G_least_certificate G_swapped F34 (sp_law K) len_law (r_law T)
end K44

open PySem PySem.W PyProof.Rows
set_option maxRecDepth 100000 in
set_option maxHeartbeats 0 in
theorem PySem.Challenge.cw_proofchoosers_k44_least_certificates_holds : PySem.Challenge.rw_proofchoosers_k44_least_certificates.Holds := by
  w_on; o_law; k_head; (case hw => w_witness2)
  k_fill
  refine DL.walkD (n := 63) (k := 28) (x := "script") (l := PySem.Challenge.rw_proofchoosers_k44_least_certificates) rfl (by decide) rfl ⟨rfl, by decide, by decide⟩ (fun w h Y => PySem.W.kIn_of Y) ?F
  case F =>
    intro w mg fa h KX G hmg
    refine' K44.all_mk KX G hmg ?aProofsError ?aInvalidText ?aInvalidTerm ?aInvalidDuel ?aOutOfRange ?aSizeMismatch ?aTooLarge ?aInvalidPlan ?aDuel ?zall ?zany ?zbool ?zint ?zisinstance ?zlen ?zlist ?zmin ?zrange ?zstr ?zsum ?ztuple ?zzip ?qOutOfRange ?kOutOfRange ?sOutOfRange ?tOutOfRange ?hgOutOfRange ?hkOutOfRange ?hdOutOfRange ?haOutOfRange ?hmOutOfRange ?qTooLarge ?kTooLarge ?sTooLarge ?tTooLarge ?hgTooLarge ?hkTooLarge ?hdTooLarge ?haTooLarge ?hmTooLarge ?hn ?ht ?pgDuel ?hdDuel ?poDuel ?saDuel ?mkDuel ?kcDuel ?haDuel ?hmDuel ?noDuelroot ?noDueltree ?noDuelends ?noDuelsides ?noDuelchildren ?zcMOST_DEPTH ?zcMOST_DIGITS ?zcMOST_LETTERS ?zcMOST_NUMBER ?zcMOST_TREES ?rdDuel ?spDuel ?fcDuelMOST_LEAVES ?fcDuelMOST_LEVELS ?fcDuelMOST_NODES ?icInvalidTerm ?tcInvalidTerm ?scOutOfRangeInvalidTerm ?neOutOfRangeInvalidTerm ?icTooLarge ?tcTooLarge ?scOutOfRangeTooLarge ?neOutOfRangeTooLarge ?icSizeMismatch ?tcSizeMismatch ?scOutOfRangeSizeMismatch ?neOutOfRangeSizeMismatch ?icInvalidPlan ?tcInvalidPlan ?scOutOfRangeInvalidPlan ?neOutOfRangeInvalidPlan ?ssOutOfRange ?icOutOfRange ?tcOutOfRange ?a1 ?l1 ?c1 ?k1 ?a2 ?l2 ?c2 ?k2 ?a3 ?l3 ?c3 ?k3 ?a4 ?i4 ?l4 ?c4 ?k4 ?a5 ?l5 ?c5 ?k5 ?a6 ?l6 ?c6 ?k6 ?a7 ?l7 ?c7 ?k7 ?a8 ?l8 ?c8 ?k8 ?a9 ?l9 ?c9 ?k9 ?a10 ?l10 ?c10 ?k10 ?a11 ?l11 ?c11 ?k11 ?a12 ?l12 ?c12 ?k12 ?a13 ?l13 ?c13 ?k13 ?a14 ?l14 ?c14 ?k14 ?a15 ?l15 ?c15 ?k15 ?a16 ?l16 ?c16 ?k16 ?a17 ?l17 ?c17 ?k17 ?a18 ?l18 ?c18 ?k18 ?a19 ?l19 ?c19 ?k19 ?a20 ?l20 ?c20 ?k20 ?a21 ?l21 ?c21 ?k21 ?a22 ?l22 ?c22 ?k22 ?a23 ?l23 ?c23 ?k23 ?a24 ?l24 ?c24 ?k24 ?a25 ?l25 ?c25 ?k25 ?a26 ?l26 ?c26 ?k26 ?a27 ?l27 ?c27 ?k27 ?a28 ?l28 ?c28 ?k28 ?a29 ?l29 ?c29 ?k29 ?a30 ?l30 ?c30 ?k30 ?a31 ?l31 ?c31 ?k31 ?a32 ?l32 ?c32 ?k32 ?a33 ?l33 ?c33 ?k33 ?a34 ?l34 ?c34 ?k34
    (case aProofsError => k_is)
    (case aInvalidText => k_is)
    (case aInvalidTerm => k_is)
    (case aInvalidDuel => k_is)
    (case aOutOfRange => k_is)
    (case aSizeMismatch => k_is)
    (case aTooLarge => k_is)
    (case aInvalidPlan => k_is)
    (case aDuel => k_is)
    (case zall => k_is)
    (case zany => k_is)
    (case zbool => k_is)
    (case zint => k_is)
    (case zisinstance => k_is)
    (case zlen => k_is)
    (case zlist => k_is)
    (case zmin => k_is)
    (case zrange => k_is)
    (case zstr => k_is)
    (case zsum => k_is)
    (case ztuple => k_is)
    (case zzip => k_is)
    (case qOutOfRange => k_exc)
    (case kOutOfRange => k_is)
    (case sOutOfRange => k_is)
    (case tOutOfRange => k_is)
    (case hgOutOfRange => k_is)
    (case hkOutOfRange => k_is)
    (case hdOutOfRange => k_is)
    (case haOutOfRange => k_is)
    (case hmOutOfRange => k_is)
    (case qTooLarge => k_exc)
    (case kTooLarge => k_is)
    (case sTooLarge => k_is)
    (case tTooLarge => k_is)
    (case hgTooLarge => k_is)
    (case hkTooLarge => k_is)
    (case hdTooLarge => k_is)
    (case haTooLarge => k_is)
    (case hmTooLarge => k_is)
    (case hn => k_is)
    (case ht => k_is)
    (case pgDuel => k_is)
    (case hdDuel => k_is)
    (case poDuel => k_is)
    (case saDuel => k_is)
    (case mkDuel => k_is)
    (case kcDuel => k_is)
    (case haDuel => k_is)
    (case hmDuel => k_is)
    (case noDuelroot => k_is)
    (case noDueltree => k_is)
    (case noDuelends => k_is)
    (case noDuelsides => k_is)
    (case noDuelchildren => k_is)
    (case zcMOST_DEPTH => k_is)
    (case zcMOST_DIGITS => k_is)
    (case zcMOST_LETTERS => k_is)
    (case zcMOST_NUMBER => k_is)
    (case zcMOST_TREES => k_is)
    (case rdDuel => k_is)
    (case spDuel => k_is)
    (case fcDuelMOST_LEAVES => k_is)
    (case fcDuelMOST_LEVELS => k_is)
    (case fcDuelMOST_NODES => k_is)
    (case icInvalidTerm => k_is)
    (case tcInvalidTerm => k_is)
    (case scOutOfRangeInvalidTerm => k_is)
    (case neOutOfRangeInvalidTerm => rfl)
    (case icTooLarge => k_is)
    (case tcTooLarge => k_is)
    (case scOutOfRangeTooLarge => k_is)
    (case neOutOfRangeTooLarge => rfl)
    (case icSizeMismatch => k_is)
    (case tcSizeMismatch => k_is)
    (case scOutOfRangeSizeMismatch => k_is)
    (case neOutOfRangeSizeMismatch => rfl)
    (case icInvalidPlan => k_is)
    (case tcInvalidPlan => k_is)
    (case scOutOfRangeInvalidPlan => k_is)
    (case neOutOfRangeInvalidPlan => rfl)
    (case ssOutOfRange => k_is)
    (case icOutOfRange => k_is)
    (case tcOutOfRange => k_is)
    (case a1 => k_is)
    (case l1 => k_is)
    (case c1 => k_is)
    (case k1 => k_is)
    (case a2 => k_is)
    (case l2 => k_is)
    (case c2 => k_is)
    (case k2 => k_is)
    (case a3 => k_is)
    (case l3 => k_is)
    (case c3 => k_is)
    (case k3 => k_is)
    (case a4 => k_is)
    (case i4 => k_is)
    (case l4 => k_is)
    (case c4 => k_is)
    (case k4 => k_is)
    (case a5 => k_is)
    (case l5 => k_is)
    (case c5 => k_is)
    (case k5 => k_is)
    (case a6 => k_is)
    (case l6 => k_is)
    (case c6 => k_is)
    (case k6 => k_is)
    (case a7 => k_is)
    (case l7 => k_is)
    (case c7 => k_is)
    (case k7 => k_is)
    (case a8 => k_is)
    (case l8 => k_is)
    (case c8 => k_is)
    (case k8 => k_is)
    (case a9 => k_is)
    (case l9 => k_is)
    (case c9 => k_is)
    (case k9 => k_is)
    (case a10 => k_is)
    (case l10 => k_is)
    (case c10 => k_is)
    (case k10 => k_is)
    (case a11 => k_is)
    (case l11 => k_is)
    (case c11 => k_is)
    (case k11 => k_is)
    (case a12 => k_is)
    (case l12 => k_is)
    (case c12 => k_is)
    (case k12 => k_is)
    (case a13 => k_is)
    (case l13 => k_is)
    (case c13 => k_is)
    (case k13 => k_is)
    (case a14 => k_is)
    (case l14 => k_is)
    (case c14 => k_is)
    (case k14 => k_is)
    (case a15 => k_is)
    (case l15 => k_is)
    (case c15 => k_is)
    (case k15 => k_is)
    (case a16 => k_is)
    (case l16 => k_is)
    (case c16 => k_is)
    (case k16 => k_is)
    (case a17 => k_is)
    (case l17 => k_is)
    (case c17 => k_is)
    (case k17 => k_is)
    (case a18 => k_is)
    (case l18 => k_is)
    (case c18 => k_is)
    (case k18 => k_is)
    (case a19 => k_is)
    (case l19 => k_is)
    (case c19 => k_is)
    (case k19 => k_is)
    (case a20 => k_is)
    (case l20 => k_is)
    (case c20 => k_is)
    (case k20 => k_is)
    (case a21 => k_is)
    (case l21 => k_is)
    (case c21 => k_is)
    (case k21 => k_is)
    (case a22 => k_is)
    (case l22 => k_is)
    (case c22 => k_is)
    (case k22 => k_is)
    (case a23 => k_is)
    (case l23 => k_is)
    (case c23 => k_is)
    (case k23 => k_is)
    (case a24 => k_is)
    (case l24 => k_is)
    (case c24 => k_is)
    (case k24 => k_is)
    (case a25 => k_is)
    (case l25 => k_is)
    (case c25 => k_is)
    (case k25 => k_is)
    (case a26 => k_is)
    (case l26 => k_is)
    (case c26 => k_is)
    (case k26 => k_is)
    (case a27 => k_is)
    (case l27 => k_is)
    (case c27 => k_is)
    (case k27 => k_is)
    (case a28 => k_is)
    (case l28 => k_is)
    (case c28 => k_is)
    (case k28 => k_is)
    (case a29 => k_is)
    (case l29 => k_is)
    (case c29 => k_is)
    (case k29 => k_is)
    (case a30 => k_is)
    (case l30 => k_is)
    (case c30 => k_is)
    (case k30 => k_is)
    (case a31 => k_is)
    (case l31 => k_is)
    (case c31 => k_is)
    (case k31 => k_is)
    (case a32 => k_is)
    (case l32 => k_is)
    (case c32 => k_is)
    (case k32 => k_is)
    (case a33 => k_is)
    (case l33 => k_is)
    (case c33 => k_is)
    (case k33 => k_is)
    (case a34 => k_is)
    (case l34 => k_is)
    (case c34 => k_is)
    (case k34 => k_is)

