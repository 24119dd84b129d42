import PyProof.Rows.All
import Wide.All
import OpenK.AllK
import Wide.FinOn
import HandS.ForMost
import HandS.Exc
import HandS.ExcOwn
import HandS.TryOnly
import HandS.WordsExc
import HandS.Wide
import HandS.Defaults
import HandS.Walk
import HandS.TupAny
import HandS.TupMul
import HandS.Deep
import HandS.IsInst
import HandS.RevRange
import HandS.Zip
import HandS.StrMore
import HandS.TupLe
import HandS.Style
import HandS.Conv
import HandS.Head0
import HandS.Head1
import HandS.Head2
import HandS.HeadEnd
import HandS.HeadHook1
import HandS.HeadHook2
import HandS.HeadHook4
import HandS.EndBits
import PySem.Challenge.RW_matefloors_k47_numbers_written
set_option Elab.async false
set_option linter.all false
set_option maxRecDepth 100000
section
/-! The D layer: what a def computes as a plain function of data (frames of data in, frames of data out), over the rules of HandS. -/
namespace DL
open PySem PySem.Spec L2
open PyProof.Rows hiding St

abbrev D := PyData
/-- an object that is owned by a slot: a list, a dict with int and text keys, one with tuple keys -/
inductive Oo where
  | l (xs : List D) | k (kvs : List (Key × D)) | t (kvs : List (List Key × D))
/-- a slot: unknown; a datum; an object of its own (pinned: a parameter that the caller lent) -/
inductive Sl where
  | un | d (x : D) | own (b : Bool) (o : Oo)
abbrev Fr := List Sl
inductive Out (α : Type) where
  | ok (a : α) (ρ : Fr) | exc (c : Str)
abbrev Mo (α : Type) := Fr → Option (Out α)
def ret {α : Type} (a : α) : Mo α := fun ρ => some (.ok a ρ)
def fail {α : Type} : Mo α := fun _ => none
def bnd {α β : Type} (m : Mo α) (k : α → Mo β) : Mo β := fun ρ => match m ρ with
  | none => none
  | some (.exc c) => some (.exc c)
  | some (.ok a ρ1) => k a ρ1
def lift {α : Type} (o : Option α) : Mo α := fun ρ => match o with
  | none => none
  | some a => some (.ok a ρ)

/-! ### data in the heap -/
mutual
inductive Dq (K : PySem.W.Frag) (H : Hp) : V → PyData → Prop
  | non : Dq K H .non .none
  | bl (b : Bool) : Dq K H (.bl b) (.bool b)
  | int (i : Int) : Dq K H (.int i) (.int i)
  | str (x : Str) : Dq K H (.str x) (.str x)
  | lst {a : Addr} {xs : List V} {ds : List PyData} : Rd H a (.lst xs) → DqAll K H xs ds → Dq K H (.ref a) (.list ds)
  | tup {a : Addr} {xs : List V} {ds : List PyData} : SqT K H a xs → DqAll K H xs ds → Dq K H (.ref a) (.tuple ds)
  /-- the script: a list that is only read (told as a dict that holds it, lest it be taken for a list) -/
  | scr {a : Addr} {ns : List Int} : SqL K H a (ns.map V.int) → Dq K H (.ref a) (.dict [(.none, .list (ns.map .int))])
inductive DqAll (K : PySem.W.Frag) (H : Hp) : List V → List PyData → Prop
  | nil : DqAll K H [] []
  | cons {v : V} {vs : List V} {d : PyData} {ds : List PyData} : Dq K H v d → DqAll K H vs ds → DqAll K H (v :: vs) (d :: ds)
end
theorem Same.rd {F F' : Hp} (h : Same F F') {a : Addr} {u : HO} (s : Rd F a u) : Rd F' a u := s.elim (fun e => .inl (h _ _ e)) fun ⟨o, e⟩ => .inr ⟨o, h _ _ e⟩
mutual
theorem dpMono {K : PySem.W.Frag} {F F' : Hp} (h : Same F F') : ∀ {v : V} {x : D}, Dq K F v x → Dq K F' v x
  | _, _, .non => .non
  | _, _, .bl b => .bl b
  | _, _, .int i => .int i
  | _, _, .str z => .str z
  | _, _, .lst s a => .lst (Same.rd h s) (dpAllMono h a)
  | _, _, .tup s a => .tup (s.elim (fun s => s.elim (fun e => .inl (.inl (h _ _ e))) fun ⟨o, e⟩ => .inl (.inr ⟨o, h _ _ e⟩)) .inr) (dpAllMono h a)
  | _, _, .scr s => .scr (h.seq s)
theorem dpAllMono {K : PySem.W.Frag} {F F' : Hp} (h : Same F F') : ∀ {vs : List V} {xs : List D}, DqAll K F vs xs → DqAll K F' vs xs
  | _, _, .nil => .nil
  | _, _, .cons a b => .cons (dpMono h a) (dpAllMono h b)
end
theorem Dq.mono {K : PySem.W.Frag} {F F' : Hp} {v : V} {x : D} (a : Dq K F v x) (h : Same F F') : Dq K F' v x := dpMono h a
theorem DqAll.mono {K : PySem.W.Frag} {F F' : Hp} {vs : List V} {xs : List D} (a : DqAll K F vs xs) (h : Same F F') : DqAll K F' vs xs := dpAllMono h a
theorem _root_.L2.Same.sqT {K : PySem.W.Frag} {F F' : Hp} (h : Same F F') {a : Addr} {xs : List V} (s : SqT K F a xs) : SqT K F' a xs :=
  s.elim (fun s => s.elim (fun e => .inl (.inl (h _ _ e))) fun ⟨o, e⟩ => .inl (.inr ⟨o, h _ _ e⟩)) .inr
section
variable {K : PySem.W.Frag} {F : Hp}
theorem DqAll.length : ∀ {vs : List V} {xs : List D}, DqAll K F vs xs → vs.length = xs.length
  | _, _, .nil => rfl
  | _, _, .cons _ b => congrArg (· + 1) b.length
theorem DqAll.get : ∀ {vs : List V} {xs : List D} {i : Nat} {x : D}, DqAll K F vs xs → xs[i]? = some x → ∃ v, vs[i]? = some v ∧ Dq K F v x
  | _, _, _, _, .nil, e => by simp at e
  | _, _, 0, _, .cons a _, e => ⟨_, rfl, by simp at e; rw [← e]; exact a⟩
  | _, _, i + 1, _, .cons _ b, e => by
    obtain ⟨v, h1, h2⟩ := b.get (i := i) (by simpa using e)
    exact ⟨v, by simpa using h1, h2⟩
theorem DqAll.getV : ∀ {vs : List V} {xs : List D} {i : Nat} {v : V}, DqAll K F vs xs → vs[i]? = some v → ∃ x, xs[i]? = some x ∧ Dq K F v x
  | _, _, _, _, .nil, e => by simp at e
  | _, _, 0, _, .cons a _, e => ⟨_, rfl, by simp at e; rw [← e]; exact a⟩
  | _, _, i + 1, _, .cons _ b, e => by
    obtain ⟨v, h1, h2⟩ := b.getV (i := i) (by simpa using e)
    exact ⟨v, by simpa using h1, h2⟩
theorem DqAll.append : ∀ {vs ws : List V} {xs ys : List D}, DqAll K F vs xs → DqAll K F ws ys → DqAll K F (vs ++ ws) (xs ++ ys)
  | _, _, _, _, .nil, s => s
  | _, _, _, _, .cons a b, s => .cons a (b.append s)
theorem DqAll.take : ∀ {vs : List V} {xs : List D} (n : Nat), DqAll K F vs xs → DqAll K F (vs.take n) (xs.take n)
  | _, _, 0, _ => .nil
  | _, _, n + 1, .nil => .nil
  | _, _, n + 1, .cons a b => .cons a (b.take n)
theorem DqAll.drop : ∀ {vs : List V} {xs : List D} (n : Nat), DqAll K F vs xs → DqAll K F (vs.drop n) (xs.drop n)
  | _, _, 0, a => a
  | _, _, n + 1, .nil => .nil
  | _, _, n + 1, .cons _ b => b.drop n
theorem DqAll.set {v : V} {x : D} (r : Dq K F v x) : ∀ {vs : List V} {xs : List D} (i : Nat), DqAll K F vs xs → DqAll K F (vs.set i v) (xs.set i x)
  | _, _, _, .nil => .nil
  | _, _, 0, .cons _ b => .cons r b
  | _, _, i + 1, .cons a b => .cons a (b.set r i)
theorem DqAll.eraseIdx : ∀ {vs : List V} {xs : List D} (i : Nat), DqAll K F vs xs → DqAll K F (vs.eraseIdx i) (xs.eraseIdx i)
  | _, _, _, .nil => .nil
  | _, _, 0, .cons _ b => b
  | _, _, i + 1, .cons a b => .cons a (b.eraseIdx i)
theorem DqAll.one {v : V} {x : D} (h : Dq K F v x) : DqAll K F [v] [x] := .cons h .nil
theorem DqAll.reverse : ∀ {vs : List V} {xs : List D}, DqAll K F vs xs → DqAll K F vs.reverse xs.reverse
  | _, _, .nil => .nil
  | _, _, .cons a b => by rw [List.reverse_cons, List.reverse_cons]; exact b.reverse.append (.one a)
theorem DqAll.flatRep {vs : List V} {xs : List D} (h : DqAll K F vs xs) : ∀ n : Nat, DqAll K F (List.replicate n vs).flatten (List.replicate n xs).flatten
  | 0 => .nil
  | n + 1 => h.append (h.flatRep n)
theorem DqAll.ints : ∀ {vs : List V} {ns : List Int}, DqAll K F vs (ns.map .int) → vs = ns.map V.int
  | _, [], h => by cases h; rfl
  | _, n :: ns, h => by
    cases h with
    | cons a b => cases a; rw [b.ints]; rfl
theorem DqAll.ofInts (ns : List Int) : DqAll K F (ns.map V.int) (ns.map .int) := by
  induction ns with
  | nil => exact .nil
  | cons n ns ih => exact .cons (.int n) ih
theorem DqAll.bools : ∀ {vs : List V} {ns : List Bool}, DqAll K F vs (ns.map .bool) → vs = ns.map V.bl
  | _, [], h => by cases h; rfl
  | _, n :: ns, h => by
    cases h with
    | cons a b => cases a; rw [b.bools]; rfl
theorem DqAll.strs : ∀ {vs : List V} {ns : List Str}, DqAll K F vs (ns.map .str) → vs = ns.map V.str
  | _, [], h => by cases h; rfl
  | _, n :: ns, h => by
    cases h with
    | cons a b => cases a; rw [b.strs]; rfl
end

mutual
theorem Dq.dp {K : PySem.W.Frag} {F : Hp} : ∀ {v : V} {x : D}, Dq K F v x → x.canLay0 = true → Dp K F v x
  | _, _, .non, _ => .non
  | _, _, .bl b, _ => .bl b
  | _, _, .int i, _ => .int i
  | _, _, .str z, _ => .str z
  | _, _, .lst s a, h => .lst (.inl s) (DqAll.dp a h)
  | _, _, .tup s a, h => .tup s (DqAll.dp a h)
  | _, _, .scr _, h => by cases h
theorem DqAll.dp {K : PySem.W.Frag} {F : Hp} : ∀ {vs : List V} {xs : List D}, DqAll K F vs xs → PyData.canLayAll0 xs = true → DpAll K F vs xs
  | _, _, .nil, _ => .nil
  | _, _, .cons a b, h => by
    have h : (PyData.canLay0 _ && PyData.canLayAll0 _) = true := h
    rw [Bool.and_eq_true] at h
    exact .cons (Dq.dp a h.1) (DqAll.dp b h.2)
end
/-- what stands at an owned address -/
inductive DpV (K : PySem.W.Frag) (F : Hp) {κ : Type} : List (κ × V) → List (κ × D) → Prop where
  | nil : DpV K F [] []
  | cons {k : κ} {v : V} {x : D} {l : List (κ × V)} {r : List (κ × D)} : Dq K F v x → DpV K F l r → DpV K F ((k, v) :: l) ((k, x) :: r)
theorem DpV.mono {K : PySem.W.Frag} {F F' : Hp} {κ : Type} (h : Same F F') : ∀ {l : List (κ × V)} {r : List (κ × D)}, DpV K F l r → DpV K F' l r
  | _, _, .nil => .nil
  | _, _, .cons a b => .cons (a.mono h) (b.mono h)
def RpO (K : PySem.W.Frag) (F : Hp) : HO → Oo → Prop
  | .lst vs, .l xs => DqAll K F vs xs
  | .dK l, .k r => DpV K F l r
  | .dT l, .t r => DpV K F l r
  | _, _ => False
theorem RpO.mono {K : PySem.W.Frag} {F F' : Hp} (h : Same F F') {ho : HO} {o : Oo} (r : RpO K F ho o) : RpO K F' ho o := by
  cases ho <;> cases o <;> first | exact r.elim | exact dpAllMono h r | exact DpV.mono h r

/-! ### a frame of data and the slots -/
structure Rp (K : PySem.W.Frag) (G : Hp) (P : Nat → Option Addr) (ρ : Fr) (σ : St) (F H : Hp) : Prop where
  len : ρ.length = σ.length
  fh : Same F H
  gh : Same G H
  dj : ∀ a o, G a = some o → F a = none
  val : ∀ (i : Nat) (x : D), ρ[i]? = some (Sl.d x) → ∃ v, σ[i]? = some (some v) ∧ Dq K F v x
  own : ∀ (i : Nat) (b : Bool) (o : Oo), ρ[i]? = some (Sl.own b o) → ∃ p ho, σ[i]? = some (some (V.ref p)) ∧ H p = some ho ∧ RpO K F ho o ∧ F p = none ∧ G p = none
  sep : ∀ (i j : Nat) (b c : Bool) (o u : Oo) (p : Addr), ρ[i]? = some (Sl.own b o) → ρ[j]? = some (Sl.own c u) → σ[i]? = some (some (V.ref p)) → σ[j]? = some (some (V.ref p)) → i = j
  pin : ∀ (i : Nat) (p : Addr), P i = some p → σ[i]? = some (some (V.ref p)) ∧ ∃ o, ρ[i]? = some (Sl.own true o)
  pin2 : ∀ (i : Nat) (o : Oo), ρ[i]? = some (Sl.own true o) → ∃ p, P i = some p
/-- no slot owns what is at p -/
def NotOwn (ρ : Fr) (σ : St) (p : Addr) : Prop := ∀ (i : Nat) (b : Bool) (o : Oo), ρ[i]? = some (Sl.own b o) → σ[i]? ≠ some (some (V.ref p))

section
variable {K : PySem.W.Frag} {G : Hp} {P : Nat → Option Addr} {ρ : Fr} {σ : St} {F H : Hp}
theorem Rp.lt (r : Rp K G P ρ σ F H) {i : Nat} {s : Sl} (h : ρ[i]? = some s) : i < σ.length := by
  rw [← r.len]; exact (List.getElem?_eq_some_iff.mp h).1
/-- a fresh address is nobody's -/
theorem Rp.notOwn (r : Rp K G P ρ σ F H) {p : Addr} (h : H p = none) : NotOwn ρ σ p := fun i b o e q => by
  obtain ⟨p', ho, e1, e2, _⟩ := r.own i b o e
  rw [e1] at q
  cases q
  rw [h] at e2; cases e2
theorem Rp.free (r : Rp K G P ρ σ F H) {p : Addr} (h : H p = none) : F p = none ∧ G p = none := ⟨r.fh.free h, r.gh.free h⟩
theorem same_upd {F : Hp} {p : Addr} {o : HO} (h : F p = none) : Same F (upd F p o) := fun b u e => by
  rw [upd_ne (fun q => by rw [q, h] at e; cases e)]; exact e
theorem same_upd2 {F H : Hp} {p : Addr} {o : HO} (h : Same F H) : Same (upd F p o) (upd H p o) := fun b u e => by
  by_cases q : b = p
  · rw [q, upd_same] at e ⊢; exact e
  · rw [upd_ne q] at e ⊢; exact h b u e
/-- the heap grows by a thing that is frozen at once -/
theorem Rp.grow (r : Rp K G P ρ σ F H) {p : Addr} {o : HO} (h : H p = none) : Rp K G P ρ σ (upd F p o) (upd H p o) where
  len := r.len
  fh := same_upd2 r.fh
  gh := r.gh.trans (same_upd h)
  dj := fun a u e => by
    rw [upd_ne (fun q => by rw [q, (r.free h).2] at e; cases e)]; exact r.dj a u e
  val := fun i x e => let ⟨v, a, b⟩ := r.val i x e; ⟨v, a, b.mono (same_upd (r.free h).1)⟩
  own := fun i b o e => by
    obtain ⟨p', ho, e1, e2, e3, e4, e5⟩ := r.own i b o e
    have n : p' ≠ p := fun q => by rw [q, h] at e2; cases e2
    exact ⟨p', ho, e1, by rw [upd_ne n]; exact e2, e3.mono (same_upd (r.free h).1), by rw [upd_ne n]; exact e4, e5⟩
  sep := r.sep
  pin := r.pin
  pin2 := r.pin2
/-- the heap grows by a thing that is not frozen yet -/
theorem Rp.more (r : Rp K G P ρ σ F H) {p : Addr} {o : HO} (h : H p = none) : Rp K G P ρ σ F (upd H p o) where
  len := r.len
  fh := r.fh.trans (same_upd h)
  gh := r.gh.trans (same_upd h)
  dj := r.dj
  val := r.val
  own := fun i b o e => by
    obtain ⟨p', ho, e1, e2, e3, e4, e5⟩ := r.own i b o e
    have n : p' ≠ p := fun q => by rw [q, h] at e2; cases e2
    exact ⟨p', ho, e1, by rw [upd_ne n]; exact e2, e3, e4, e5⟩
  sep := r.sep
  pin := r.pin
  pin2 := r.pin2
/-- what nobody owns is written -/
theorem Rp.wrote (r : Rp K G P ρ σ F H) {p : Addr} {o : HO} (hF : F p = none) (hG : G p = none) (hn : NotOwn ρ σ p) : Rp K G P ρ σ F (upd H p o) where
  len := r.len
  fh := fun a u e => by rw [upd_ne (fun q => by rw [q, hF] at e; cases e)]; exact r.fh a u e
  gh := fun a u e => by rw [upd_ne (fun q => by rw [q, hG] at e; cases e)]; exact r.gh a u e
  dj := r.dj
  val := r.val
  own := fun i b o e => by
    obtain ⟨p', ho, e1, e2, e3, e4, e5⟩ := r.own i b o e
    have n : p' ≠ p := fun q => hn i b o e (by rw [← q]; exact e1)
    exact ⟨p', ho, e1, by rw [upd_ne n]; exact e2, e3, e4, e5⟩
  sep := r.sep
  pin := r.pin
  pin2 := r.pin2
/-- what nobody owns is frozen -/
theorem Rp.froze (r : Rp K G P ρ σ F H) {p : Addr} {o : HO} (hH : H p = some o) (hF : F p = none) (hG : G p = none) (hn : NotOwn ρ σ p) : Rp K G P ρ σ (upd F p o) H where
  len := r.len
  fh := fun a u e => by
    by_cases q : a = p
    · rw [q, upd_same] at e; rw [q, hH]; exact e
    · rw [upd_ne q] at e; exact r.fh a u e
  gh := r.gh
  dj := fun a u e => by
    rw [upd_ne (fun q => by rw [q, hG] at e; cases e)]; exact r.dj a u e
  val := fun i x e => let ⟨v, a, b⟩ := r.val i x e; ⟨v, a, b.mono (same_upd hF)⟩
  own := fun i b o e => by
    obtain ⟨p', ho, e1, e2, e3, e4, e5⟩ := r.own i b o e
    have n : p' ≠ p := fun q => hn i b o e (by rw [← q]; exact e1)
    exact ⟨p', ho, e1, e2, e3.mono (same_upd hF), by rw [upd_ne n]; exact e4, e5⟩
  sep := r.sep
  pin := r.pin
  pin2 := r.pin2
theorem get_set {α : Type} {l : List α} {i j : Nat} {x y : α} (h : (l.set i x)[j]? = some y) : (i = j ∧ y = x ∧ i < l.length) ∨ (i ≠ j ∧ l[j]? = some y) := by
  by_cases e : i = j
  · subst e
    have hl : i < l.length := by
      have := (List.getElem?_eq_some_iff.mp h).1
      simpa using this
    rw [List.getElem?_set_self hl] at h
    exact .inl ⟨rfl, (Option.some.inj h).symm, hl⟩
  · rw [List.getElem?_set_ne e] at h
    exact .inr ⟨e, h⟩
/-- a slot that is not pinned is stored -/
theorem Rp.setD (r : Rp K G P ρ σ F H) {i : Nat} {v : V} {x : D} (h : Dq K F v x) (np : ∀ o, ρ[i]? ≠ some (Sl.own true o)) : Rp K G P (ρ.set i (.d x)) (σ.set i (some v)) F H where
  len := by rw [List.length_set, List.length_set]; exact r.len
  fh := r.fh
  gh := r.gh
  dj := r.dj
  val := fun j y e => by
    rcases get_set e with ⟨rfl, q, hl⟩ | ⟨n, q⟩
    · cases q
      exact ⟨v, by rw [List.getElem?_set_self (by rw [← r.len]; exact hl)], h⟩
    · rw [List.getElem?_set_ne n]; exact r.val j y q
  own := fun j b o e => by
    rcases get_set e with ⟨rfl, q, hl⟩ | ⟨n, q⟩
    · cases q
    · rw [List.getElem?_set_ne n]; exact r.own j b o q
  sep := fun j k b c o u p e1 e2 f1 f2 => by
    rcases get_set e1 with ⟨rfl, q, hl⟩ | ⟨n, q⟩
    · cases q
    rcases get_set e2 with ⟨rfl, q', hl⟩ | ⟨n', q'⟩
    · cases q'
    rw [List.getElem?_set_ne n] at f1
    rw [List.getElem?_set_ne n'] at f2
    exact r.sep j k b c o u p q q' f1 f2
  pin := fun j p e => by
    obtain ⟨h1, o, h2⟩ := r.pin j p e
    have n : i ≠ j := fun q => by rw [← q] at h2; exact np o h2
    exact ⟨by rw [List.getElem?_set_ne n]; exact h1, o, by rw [List.getElem?_set_ne n]; exact h2⟩
  pin2 := fun j o e => by
    rcases get_set e with ⟨rfl, q, hl⟩ | ⟨n, q⟩
    · cases q
    · exact r.pin2 j o q
theorem Rp.setUn (r : Rp K G P ρ σ F H) {i : Nat} {v : Option V} (np : ∀ o, ρ[i]? ≠ some (Sl.own true o)) : Rp K G P (ρ.set i .un) (σ.set i v) F H where
  len := by rw [List.length_set, List.length_set]; exact r.len
  fh := r.fh
  gh := r.gh
  dj := r.dj
  val := fun j y e => by
    rcases get_set e with ⟨rfl, q, hl⟩ | ⟨n, q⟩
    · cases q
    · rw [List.getElem?_set_ne n]; exact r.val j y q
  own := fun j b o e => by
    rcases get_set e with ⟨rfl, q, hl⟩ | ⟨n, q⟩
    · cases q
    · rw [List.getElem?_set_ne n]; exact r.own j b o q
  sep := fun j k b c o u p e1 e2 f1 f2 => by
    rcases get_set e1 with ⟨rfl, q, hl⟩ | ⟨n, q⟩
    · cases q
    rcases get_set e2 with ⟨rfl, q', hl⟩ | ⟨n', q'⟩
    · cases q'
    rw [List.getElem?_set_ne n] at f1
    rw [List.getElem?_set_ne n'] at f2
    exact r.sep j k b c o u p q q' f1 f2
  pin := fun j p e => by
    obtain ⟨h1, o, h2⟩ := r.pin j p e
    have n : i ≠ j := fun q => by rw [← q] at h2; exact np o h2
    exact ⟨by rw [List.getElem?_set_ne n]; exact h1, o, by rw [List.getElem?_set_ne n]; exact h2⟩
  pin2 := fun j o e => by
    rcases get_set e with ⟨rfl, q, hl⟩ | ⟨n, q⟩
    · cases q
    · exact r.pin2 j o q
/-- a fresh object comes into a slot -/
theorem Rp.setO (r : Rp K G P ρ σ F H) {i : Nat} {p : Addr} {ho : HO} {o : Oo} (hH : H p = some ho) (h : RpO K F ho o) (hF : F p = none) (hG : G p = none) (hn : NotOwn ρ σ p) (np : ∀ o, ρ[i]? ≠ some (Sl.own true o)) :
    Rp K G P (ρ.set i (.own false o)) (σ.set i (some (V.ref p))) F H where
  len := by rw [List.length_set, List.length_set]; exact r.len
  fh := r.fh
  gh := r.gh
  dj := r.dj
  val := fun j y e => by
    rcases get_set e with ⟨rfl, q, hl⟩ | ⟨n, q⟩
    · cases q
    · rw [List.getElem?_set_ne n]; exact r.val j y q
  own := fun j b u e => by
    rcases get_set e with ⟨rfl, q, hl⟩ | ⟨n, q⟩
    · cases q
      exact ⟨p, ho, by rw [List.getElem?_set_self (by rw [← r.len]; exact hl)], hH, h, hF, hG⟩
    · rw [List.getElem?_set_ne n]; exact r.own j b u q
  sep := fun j k b c u w a e1 e2 f1 f2 => by
    rcases get_set e1 with ⟨rfl, q, hl⟩ | ⟨n, q⟩
    · rw [List.getElem?_set_self (by rw [← r.len]; exact hl)] at f1
      cases f1
      rcases get_set e2 with ⟨rfl, q', hl⟩ | ⟨n', q'⟩
      · rfl
      · rw [List.getElem?_set_ne n'] at f2
        exact absurd f2 (hn k c w q')
    rcases get_set e2 with ⟨rfl, q', hl⟩ | ⟨n', q'⟩
    · rw [List.getElem?_set_self (by rw [← r.len]; exact hl)] at f2
      cases f2
      rw [List.getElem?_set_ne n] at f1
      exact absurd f1 (hn j b u q)
    rw [List.getElem?_set_ne n] at f1
    rw [List.getElem?_set_ne n'] at f2
    exact r.sep j k b c u w a q q' f1 f2
  pin := fun j p e => by
    obtain ⟨h1, o, h2⟩ := r.pin j p e
    have n : i ≠ j := fun q => by rw [← q] at h2; exact np o h2
    exact ⟨by rw [List.getElem?_set_ne n]; exact h1, o, by rw [List.getElem?_set_ne n]; exact h2⟩
  pin2 := fun j o e => by
    rcases get_set e with ⟨rfl, q, hl⟩ | ⟨n, q⟩
    · cases q
    · exact r.pin2 j o q
/-- the object of a slot is changed in its place -/
theorem Rp.chg (r : Rp K G P ρ σ F H) {i : Nat} {b : Bool} {o o' : Oo} {p : Addr} {ho' : HO} (e : ρ[i]? = some (Sl.own b o)) (es : σ[i]? = some (some (V.ref p))) (h : RpO K F ho' o') :
    Rp K G P (ρ.set i (.own b o')) σ F (upd H p ho') := by
  obtain ⟨p', ho, e1, e2, e3, e4, e5⟩ := r.own i b o e
  have ep : p' = p := by rw [es] at e1; cases e1; rfl
  subst ep
  have hi : i < ρ.length := (List.getElem?_eq_some_iff.mp e).1
  exact {
    len := by rw [List.length_set]; exact r.len
    fh := fun a u z => by rw [upd_ne (fun q => by rw [q, e4] at z; cases z)]; exact r.fh a u z
    gh := fun a u z => by rw [upd_ne (fun q => by rw [q, e5] at z; cases z)]; exact r.gh a u z
    dj := r.dj
    val := fun j y z => by
      rcases get_set z with ⟨rfl, q, hl⟩ | ⟨n, q⟩
      · cases q
      · exact r.val j y q
    own := fun j c u z => by
      rcases get_set z with ⟨rfl, q, hl⟩ | ⟨n, q⟩
      · cases q
        exact ⟨p', ho', es, upd_same, h, e4, e5⟩
      · obtain ⟨a, hb, z1, z2, z3, z4, z5⟩ := r.own j c u q
        have na : a ≠ p' := fun w => n (r.sep i j b c o u p' e q es (by rw [← w]; exact z1))
        exact ⟨a, hb, z1, by rw [upd_ne na]; exact z2, z3, z4, z5⟩
    sep := fun j k c c' u w a z1 z2 f1 f2 => by
      rcases get_set z1 with ⟨rfl, q, hl⟩ | ⟨n, q⟩ <;> rcases get_set z2 with ⟨rfl, q', hl'⟩ | ⟨n', q'⟩
      · rfl
      · exact r.sep i k b c' o w a e q' f1 f2
      · exact r.sep j i c b u o a q e f1 f2
      · exact r.sep j k c c' u w a q q' f1 f2
    pin := fun j a z => by
      obtain ⟨h1, u, h2⟩ := r.pin j a z
      refine ⟨h1, ?_⟩
      by_cases n : i = j
      · subst n
        rw [e] at h2
        cases h2
        exact ⟨o', List.getElem?_set_self hi⟩
      · exact ⟨u, by rw [List.getElem?_set_ne n]; exact h2⟩
    pin2 := fun j u z => by
      rcases get_set z with ⟨rfl, q, hl⟩ | ⟨n, q⟩
      · cases q
        exact r.pin2 i o e
      · exact r.pin2 j u q }
/-- the object of a slot that is not pinned is frozen -/
theorem Rp.freeze (r : Rp K G P ρ σ F H) {i : Nat} {xs : List D} (e : ρ[i]? = some (Sl.own false (.l xs))) :
    ∃ p vs, σ[i]? = some (some (V.ref p)) ∧ F p = none ∧ DqAll K F vs xs ∧ Rp K G P (ρ.set i (.d (.list xs))) σ (upd F p (.lst vs)) H := by
  obtain ⟨p, ho, e1, e2, e3, e4, e5⟩ := r.own i false _ e
  have hi : i < ρ.length := (List.getElem?_eq_some_iff.mp e).1
  cases ho with
  | lst vs =>
    have e3 : DqAll K F vs xs := e3
    have s1 : Same F (upd F p (.lst vs)) := same_upd e4
    refine ⟨p, vs, e1, e4, e3, ?_⟩
    exact {
      len := by rw [List.length_set]; exact r.len
      fh := fun a u z => by
        by_cases q : a = p
        · rw [q, upd_same] at z; rw [q, e2]; exact z
        · rw [upd_ne q] at z; exact r.fh a u z
      gh := r.gh
      dj := fun a u z => by rw [upd_ne (fun q => by rw [q, e5] at z; cases z)]; exact r.dj a u z
      val := fun j y z => by
        rcases get_set z with ⟨rfl, q, hl⟩ | ⟨n, q⟩
        · cases q
          exact ⟨.ref p, e1, .lst (.inl upd_same) (e3.mono s1)⟩
        · obtain ⟨v, a, b⟩ := r.val j y q
          exact ⟨v, a, b.mono s1⟩
      own := fun j c u z => by
        rcases get_set z with ⟨rfl, q, hl⟩ | ⟨n, q⟩
        · cases q
        · obtain ⟨a, hb, z1, z2, z3, z4, z5⟩ := r.own j c u q
          have na : a ≠ p := fun w => n (r.sep i j _ c _ u p e q e1 (by rw [← w]; exact z1))
          exact ⟨a, hb, z1, z2, z3.mono s1, by rw [upd_ne na]; exact z4, z5⟩
      sep := fun j k c c' u w a z1 z2 f1 f2 => by
        rcases get_set z1 with ⟨rfl, q, hl⟩ | ⟨n, q⟩
        · cases q
        rcases get_set z2 with ⟨rfl, q', hl'⟩ | ⟨n', q'⟩
        · cases q'
        exact r.sep j k c c' u w a q q' f1 f2
      pin := fun j a z => by
        obtain ⟨h1, u, h2⟩ := r.pin j a z
        have n : i ≠ j := fun q => by rw [← q, e] at h2; cases h2
        exact ⟨h1, u, by rw [List.getElem?_set_ne n]; exact h2⟩
      pin2 := fun j u z => by
        rcases get_set z with ⟨rfl, q, hl⟩ | ⟨n, q⟩
        · cases q
        · exact r.pin2 j u q }
  | _ => exact e3.elim
end

/-! ### what a piece of the program does, told by data -/
/-- α: what is told; β: what the layer below gives -/
abbrev Rel (α β : Type) := Hp → St → Fr → Hp → Hp → α → β → Prop
def EOK {α β : Type} (X : Cx) (E : XK) (R : Rel α β) (G : Hp) (P : Nat → Option Addr) (σ : St) (F : Hp) (Q : β → Hp → Prop) : Option (Out α) → Prop
  | none => False
  | some (.exc c) => ∀ C H', X.mg c = some (.ref C) → Same F H' → Same G H' → E (.ref C) none H'
  | some (.ok a ρ') => ∀ b F' H', Same F F' → Rp X.K G P ρ' σ F' H' → R G σ ρ' F' H' a b → Q b H'
def Snd {α β : Type} (X : Cx) (E : XK) (R : Rel α β) (m : Mo α) (t : St → Hp → (β → Hp → Prop) → Prop) : Prop :=
  ∀ (G : Hp) (P : Nat → Option Addr) (ρ : Fr) (σ : St) (F H : Hp) (Q : β → Hp → Prop), Rp X.K G P ρ σ F H → EOK X E R G P σ F Q (m ρ) → t σ H Q
section
variable {X : Cx} {E : XK} {α β α' β' : Type} {R : Rel α β} {R' : Rel α' β'} {G : Hp} {P : Nat → Option Addr} {σ : St} {F F1 H : Hp} {Q : β → Hp → Prop}
theorem EOK.mono {o : Option (Out α)} (h : EOK X E R G P σ F Q o) (s : Same F F1) : EOK X E R G P σ F1 Q o := by
  match o, h with
  | some (.exc c), h => exact fun C H' e a b => h C H' e (s.trans a) b
  | some (.ok a ρ'), h => exact fun b F' H' e r q => h b F' H' (s.trans e) r q
theorem EOK.bind {ρ : Fr} {m : Mo α} {k : α → Mo α'} {t : St → Hp → (β → Hp → Prop) → Prop} {Q' : β' → Hp → Prop} (r : Rp X.K G P ρ σ F H) (h : EOK X E R' G P σ F Q' (bnd m k ρ)) (hm : Snd X E R m t)
    (hk : ∀ a ρ1 b F1 H1, Same F F1 → Rp X.K G P ρ1 σ F1 H1 → R G σ ρ1 F1 H1 a b → EOK X E R' G P σ F1 Q' (k a ρ1) → Q b H1) : t σ H Q := by
  refine hm G P ρ σ F H Q r ?_
  unfold bnd at h
  match e : m ρ, h with
  | some (.exc c), h => exact h
  | some (.ok a ρ'), h => exact fun b F' H' s r' q => hk a ρ' b F' H' s r' q (h.mono s)
theorem EOK.bindE {ρ : Fr} {m : Mo α} {k : α → Mo α'} {t : St → Hp → (β → Hp → Prop) → Prop} {Q' : β' → Hp → Prop} (r : Rp X.K G P ρ σ F H) (h : EOK X E R' G P σ F Q' (bnd m k ρ)) (hm : Snd X E R m t)
    (hk : ∀ a ρ1 b F1 H1, m ρ = some (.ok a ρ1) → Same F F1 → Rp X.K G P ρ1 σ F1 H1 → R G σ ρ1 F1 H1 a b → EOK X E R' G P σ F1 Q' (k a ρ1) → Q b H1) : t σ H Q := by
  refine hm G P ρ σ F H Q r ?_
  unfold bnd at h
  match e : m ρ, h with
  | some (.exc c), h => exact h
  | some (.ok a ρ'), h => exact fun b F' H' s r' q => hk a ρ' b F' H' e s r' q (h.mono s)
/-- the value that is told is there -/
theorem EOK.give {a : α} {b : β} {ρ : Fr} (h : EOK X E R G P σ F Q (ret a ρ)) (r : Rp X.K G P ρ σ F H) (q : R G σ ρ F H a b) : Q b H := h b F H (Same.refl _) r q
theorem EOK.lift {o : Option α} {ρ : Fr} (h : EOK X E R G P σ F Q (lift o ρ)) : ∃ a, o = some a ∧ EOK X E R G P σ F Q (ret a ρ) := by
  cases o with
  | none => exact h.elim
  | some a => exact ⟨a, rfl, h⟩
end
/-- a datum and its value -/
def RE (K : PySem.W.Frag) : Rel D V := fun _ _ _ F _ d v => Dq K F v d
def RT : Rel Bool Bool := fun _ _ _ _ _ a b => a = b
/-- a fresh object, owned by nobody -/
def RO (K : PySem.W.Frag) : Rel Oo V := fun G σ ρ F H o v => ∃ p ho, v = .ref p ∧ H p = some ho ∧ RpO K F ho o ∧ F p = none ∧ G p = none ∧ NotOwn ρ σ p
structure DE (X : Cx) (E : XK) (e : Expr) (m : Mo D) : Prop where
  ex : ∃ t, PE X e t ∧ Snd X E (RE X.K) m t
structure DO (X : Cx) (E : XK) (e : Expr) (m : Mo Oo) : Prop where
  ex : ∃ t, PE X e t ∧ Snd X E (RO X.K) m t
structure DT (X : Cx) (E : XK) (e : Expr) (m : Mo Bool) : Prop where
  ex : ∃ t, PT X e t ∧ Snd X E RT m t
end DL
end
section
namespace DL
open PySem PySem.Spec L2
open PyProof.Rows hiding St

/-! ### operands: a datum, or the object of a slot as it stands when it is used -/
inductive Arg where
  | d (x : D) | s (i : Nat)
def slD : Sl → Option D
  | .own _ (.l xs) => some (.list xs)
  | _ => none
def rsv (ρ : Fr) : Arg → Option D
  | .d x => some x
  | .s i => (ρ[i]?).bind slD
def opnd (a : Arg) : Mo D := fun ρ => match rsv ρ a with
  | some x => some (.ok x ρ)
  | none => none
def RR (K : PySem.W.Frag) : Rel Arg V := fun _ σ _ F _ a v => match a with
  | .d x => Dq K F v x
  | .s i => σ[i]? = some (some v)
/-- a datum read: frozen, or a list that is owned -/
def RdH (K : PySem.W.Frag) (F H : Hp) (v : V) (x : D) : Prop := Dq K F v x ∨ ∃ p vs xs, v = .ref p ∧ x = .list xs ∧ H p = some (.lst vs) ∧ DqAll K F vs xs
theorem RdH.dq {K : PySem.W.Frag} {F H : Hp} {v : V} {x : D} (h : RdH K F H v x) (s : Same F H) : Dq K H v x := by
  rcases h with h | ⟨p, vs, xs, rfl, rfl, e, a⟩
  · exact h.mono s
  · exact .lst (.inl e) (a.mono s)
theorem RR.mono {K : PySem.W.Frag} {G F F' H H' : Hp} {σ : St} {ρ ρ' : Fr} {a : Arg} {v : V} (h : RR K G σ ρ F H a v) (s : Same F F') : RR K G σ ρ' F' H' a v := by
  cases a with
  | d x => exact Dq.mono h s
  | s i => exact h
theorem rsv_ok {K : PySem.W.Frag} {G F H : Hp} {P : Nat → Option Addr} {σ : St} {ρ : Fr} {a : Arg} {v : V} {x : D} (r : Rp K G P ρ σ F H) (h : RR K G σ ρ F H a v) (e : rsv ρ a = some x) : RdH K F H v x := by
  cases a with
  | d y => cases e; exact .inl h
  | s i =>
    have h : σ[i]? = some (some v) := h
    have e : (ρ[i]?).bind slD = some x := e
    obtain ⟨b, xs, q, rfl⟩ : ∃ b xs, ρ[i]? = some (.own b (.l xs)) ∧ x = .list xs := by
      cases q : ρ[i]? with
      | none => rw [q] at e; cases e
      | some w =>
        rw [q] at e
        cases w with
        | own b o => cases o with
          | l xs => cases e; exact ⟨b, xs, rfl, rfl⟩
          | k _ => cases e
          | t _ => cases e
        | d _ => cases e
        | un => cases e
    obtain ⟨p, ho, e1, e2, e3, _⟩ := r.own i b _ q
    rw [h] at e1; cases e1
    cases ho with
    | lst vs => exact .inr ⟨p, vs, xs, rfl, rfl, e2, e3⟩
    | _ => exact e3.elim
structure DR (X : Cx) (E : XK) (e : Expr) (m : Mo Arg) : Prop where
  ex : ∃ t, PE X e t ∧ Snd X E (RR X.K) m t
def RAs (K : PySem.W.Frag) : Rel (List Arg) (List V) := fun G σ ρ F H as vs => as.length = vs.length ∧ ∀ (i : Nat) a v, as[i]? = some a → vs[i]? = some v → RR K G σ ρ F H a v
structure DA (X : Cx) (E : XK) (es : List Expr) (m : Mo (List Arg)) : Prop where
  ex : ∃ t, PA X es t ∧ Snd X E (RAs X.K) m t
  len : ∀ ρ as ρ', m ρ = some (.ok as ρ') → as.length = es.length
theorem bnd_ok {α β : Type} {m : Mo α} {k : α → Mo β} {ρ ρ' : Fr} {b : β} (h : bnd m k ρ = some (.ok b ρ')) : ∃ a ρ1, m ρ = some (.ok a ρ1) ∧ k a ρ1 = some (.ok b ρ') := by
  unfold bnd at h
  cases e : m ρ with
  | none => rw [e] at h; cases h
  | some z => cases z with
    | exc c => rw [e] at h; cases h
    | ok a ρ1 => rw [e] at h; exact ⟨a, ρ1, rfl, h⟩

section
variable {X : Cx} {E : XK} {e a b c : Expr} {es : List Expr} {pos : Pos}

theorem EOK.opnd {α β : Type} {R : Rel α β} {G : Hp} {P : Nat → Option Addr} {σ : St} {F H : Hp} {Q : β → Hp → Prop} {ρ : Fr} {x : Arg} {v : V} {k : D → Mo α} (r : Rp X.K G P ρ σ F H) (hv : RR X.K G σ ρ F H x v)
    (h : EOK X E R G P σ F Q (bnd (opnd x) k ρ)) : ∃ d, RdH X.K F H v d ∧ EOK X E R G P σ F Q (k d ρ) := by
  unfold bnd DL.opnd at h
  match q : rsv ρ x, h with
  | some d, h => exact ⟨d, rsv_ok r hv q, h⟩
  | none, h => exact h.elim

/-! ### from one judgement to another -/
theorem DE.dr {m : Mo D} (h : DE X E e m) : DR X E e (bnd m fun x => ret (.d x)) := by
  obtain ⟨t, p, s⟩ := h.ex
  exact ⟨t, p, fun G P ρ σ F H Q r k => EOK.bind (t := t) r k s fun x ρ1 v F1 H1 _ r1 hv k1 => k1.give r1 hv⟩
theorem DO.de {m : Mo Oo} (h : DO X E e m) : DE X E e (bnd m fun o => match o with | .l xs => ret (.list xs) | _ => fail) := by
  obtain ⟨t, p, s⟩ := h.ex
  refine ⟨t, p, fun G P ρ σ F H Q r k => EOK.bind (t := t) r k s fun o ρ1 v F1 H1 _ r1 hv k1 => ?_⟩
  cases o with
  | l xs =>
    obtain ⟨p, ho, rfl, e1, e2, e3, e4, e5⟩ := hv
    cases ho with
    | lst vs => exact k1 _ _ _ (same_upd e3) (r1.froze e1 e3 e4 e5) (.lst (.inl upd_same) (DqAll.mono e2 (same_upd e3)))
    | _ => exact e2.elim
  | k _ => exact k1.elim
  | t _ => exact k1.elim
def mTrue (m : Mo D) : Mo Bool := bnd m fun x => match x with | .bool b => ret b | _ => fail
theorem DE.dt {m : Mo D} (h : DE X E e m) (he : ∀ whole, isTrue e X.env whole = (do let v ← whole; standAt e.pos; holding [v] (truthy v)) := by intro _; rfl) : DT X E e (mTrue m) := by
  obtain ⟨t, p, s⟩ := h.ex
  refine ⟨_, pt_val p he, fun G P ρ σ F H Q r k => EOK.bind (t := t) r k s fun x ρ1 v F1 H1 _ r1 hv k1 => ?_⟩
  cases x with
  | bool b => cases hv; exact ⟨b, rfl, k1.give r1 rfl⟩
  | _ => exact k1.elim

/-! ### constants, names -/
theorem de_int {i : Int} {j : Nat} : DE X E (.Constant (.int i) j pos) (ret (.int i)) := ⟨_, pe_int, fun _ _ _ _ _ _ _ r k => k.give r (.int i)⟩
theorem de_bl {b : Bool} {j : Nat} : DE X E (.Constant (.bool b) j pos) (ret (.bool b)) := ⟨_, pe_bl, fun _ _ _ _ _ _ _ r k => k.give r (.bl b)⟩
theorem de_non {j : Nat} : DE X E (.Constant .none j pos) (ret .none) := ⟨_, pe_non, fun _ _ _ _ _ _ _ r k => k.give r .non⟩
theorem de_str {z : Str} {j : Nat} : DE X E (.Constant (.str z) j pos) (ret (.str z)) := ⟨_, pe_str, fun _ _ _ _ _ _ _ r k => k.give r (.str z)⟩
/-- a name's value; a list that it owns is frozen -/
def rv (i : Nat) : Mo D := fun ρ => match ρ[i]? with
  | some (.d x) => some (.ok x ρ)
  | some (.own false (.l xs)) => some (.ok (.list xs) (ρ.set i (.d (.list xs))))
  | _ => none
theorem de_var (i : Nat) {x : Str} (hN : X.N[i]? = some x := by rfl) (hv : Vis X.env.scope x := by first | exact Or.inl rfl | exact Or.inr (Or.inl rfl) | exact Or.inr (Or.inr rfl)) (hd : (x == ("__debug__" : Str)) = false := by decide)
    (hcd : (x == ("__classdict__" : Str)) = false := by decide) : DE X E (.Name x pos) (rv i) := by
  refine ⟨_, pe_var hN hv hd hcd, fun G P ρ σ F H Q r k => ?_⟩
  unfold rv at k
  match q : ρ[i]?, k with
  | some (.d x), k =>
    obtain ⟨v, h1, h2⟩ := r.val i x q
    exact ⟨v, h1, k v F H (Same.refl _) r h2⟩
  | some (.own false (.l xs)), k =>
    obtain ⟨p, vs, h1, h2, h3, h4⟩ := r.freeze q
    exact ⟨_, h1, k _ _ H (same_upd h2) h4 (.lst (.inl upd_same) (h3.mono (same_upd h2)))⟩
  | some (.own true _), k => exact k.elim
  | some (.own false (.k _)), k => exact k.elim
  | some (.own false (.t _)), k => exact k.elim
  | some .un, k => exact k.elim
  | none, k => exact k.elim
/-- a name as an operand: an object that it owns is looked at only -/
def ra (i : Nat) : Mo Arg := fun ρ => match ρ[i]? with
  | some (.d x) => some (.ok (.d x) ρ)
  | some (.own _ _) => some (.ok (.s i) ρ)
  | _ => none
theorem dr_var (i : Nat) {x : Str} (hN : X.N[i]? = some x := by rfl) (hv : Vis X.env.scope x := by first | exact Or.inl rfl | exact Or.inr (Or.inl rfl) | exact Or.inr (Or.inr rfl)) (hd : (x == ("__debug__" : Str)) = false := by decide)
    (hcd : (x == ("__classdict__" : Str)) = false := by decide) : DR X E (.Name x pos) (ra i) := by
  refine ⟨_, pe_var hN hv hd hcd, fun G P ρ σ F H Q r k => ?_⟩
  unfold ra at k
  match q : ρ[i]?, k with
  | some (.d x), k =>
    obtain ⟨v, h1, h2⟩ := r.val i x q
    exact ⟨v, h1, k v F H (Same.refl _) r h2⟩
  | some (.own b o), k =>
    obtain ⟨p, ho, h1, _⟩ := r.own i b o q
    exact ⟨_, h1, k _ F H (Same.refl _) r h1⟩
  | some .un, k => exact k.elim
  | none, k => exact k.elim
/-- a constant of the module -/
theorem de_glob {x : Str} {v : V} {u : Value} {d : D} (hg : Gl X x) (hm : X.mg x = some u) (r : RelV v u) (hd : ∀ F, Dq X.K F v d) (hdb : (x == ("__debug__" : Str)) = false := by decide) : DE X E (.Name x pos) (ret d) :=
  ⟨_, pe_glob hg hm r hdb, fun _ _ _ _ _ _ _ r k => k.give r (hd _)⟩

/-! ### argument lists, displays -/
theorem da_nil : DA X E [] (ret []) := ⟨⟨_, pa_nil, fun _ _ _ _ _ _ _ r k => k.give r ⟨rfl, fun _ _ _ e => by simp at e⟩⟩, fun _ _ _ e => by cases e; rfl⟩
theorem da_cons {m : Mo Arg} {ms : Mo (List Arg)} (ha : DR X E e m) (hr : DA X E es ms) (hs : starEach (e :: es) X.env = (false, eval e X.env) :: starEach es X.env := by rfl) : DA X E (e :: es) (bnd m fun x => bnd ms fun xs => ret (x :: xs)) := by
  obtain ⟨t, p, s⟩ := ha.ex
  obtain ⟨t', p', s'⟩ := hr.ex
  refine ⟨⟨_, pa_cons p p' hs, ?_⟩, fun ρ as ρ' z => ?_⟩
  case refine_2 =>
    obtain ⟨x, ρ1, _, z⟩ := bnd_ok z
    obtain ⟨xs, ρ2, z1, z⟩ := bnd_ok z
    cases z
    exact congrArg (· + 1) (hr.len _ _ _ z1)
  refine fun G P ρ σ F H Q r k => EOK.bind (t := t) r k s fun x ρ1 v F1 H1 _ r1 hv k1 => EOK.bind (t := t') r1 k1 s' fun xs ρ2 vs F2 H2 s2 r2 hvs k2 => k2.give r2 ⟨by simp [hvs.1], fun i a u e1 e2 => ?_⟩
  cases i with
  | zero => cases e1; cases e2; exact hv.mono s2
  | succ i => exact hvs.2 i a u (by simpa using e1) (by simpa using e2)
/-- the data of operands; an object of a slot is no datum here -/
def argD : Arg → Option D
  | .d x => some x
  | .s _ => none
def argsD : List Arg → Option (List D)
  | [] => some []
  | .d x :: r => match argsD r with
    | some l => some (x :: l)
    | none => none
  | .s _ :: _ => none
def vals (m : Mo (List Arg)) : Mo (List D) := bnd m fun as => lift (argsD as)
theorem argsD_ok {K : PySem.W.Frag} {G F H : Hp} {σ : St} {ρ : Fr} : ∀ {as : List Arg} {vs : List V} {xs : List D}, RAs K G σ ρ F H as vs → argsD as = some xs → DqAll K F vs xs
  | [], [], _, _, e => by cases e; exact .nil
  | [], _ :: _, _, h, _ => by have := h.1; simp at this
  | _ :: _, [], _, h, _ => by have := h.1; simp at this
  | .s _ :: _, _ :: _, _, _, e => by cases e
  | .d x :: as, v :: vs, xs, h, e => by
    unfold argsD at e
    match q : argsD as, e with
    | some l, e =>
      cases e
      exact .cons (h.2 0 _ _ rfl rfl) (argsD_ok (as := as) ⟨by have := h.1; simpa using this, fun i a u e1 e2 => h.2 (i + 1) a u (by simpa using e1) (by simpa using e2)⟩ q)
    | none, e => cases e
def mTup (m : Mo (List Arg)) : Mo D := bnd m fun as => lift (match argsD as with
  | some xs => if xs.length ≤ sizeLine then some (.tuple xs) else none
  | none => none)
theorem de_tup {m : Mo (List Arg)} {x1 : Nat} (h : DA X E es m) : DE X E (.Tuple es x1 pos) (mTup m) := by
  obtain ⟨t, p, s⟩ := h.ex
  refine ⟨_, pe_tup p, fun G P ρ σ F H Q r k => EOK.bind (t := t) r k s fun as ρ1 vs F1 H1 _ r1 hv k1 => ?_⟩
  obtain ⟨d, e, k2⟩ := k1.lift
  match q : argsD as, e with
  | some xs, e =>
    have hd := argsD_ok hv q
    by_cases hl : xs.length ≤ sizeLine
    · simp only [if_pos hl] at e
      cases e
      refine ⟨by rw [hd.length]; exact hl, fun p hp => k2 _ _ _ (same_upd (r1.free hp).1) (r1.grow hp) (.tup (.inl (.inl upd_same)) (hd.mono (same_upd (r1.free hp).1)))⟩
    · simp only [if_neg hl] at e; cases e
  | none, e => cases e
def mLst (m : Mo (List Arg)) : Mo Oo := bnd m fun as => lift (match argsD as with
  | some xs => if xs.length ≤ sizeLine then some (.l xs) else none
  | none => none)
theorem do_lst {m : Mo (List Arg)} (h : DA X E es m) : DO X E (.List es pos) (mLst m) := by
  obtain ⟨t, p, s⟩ := h.ex
  refine ⟨_, pe_lst p, fun G P ρ σ F H Q r k => EOK.bind (t := t) r k s fun as ρ1 vs F1 H1 _ r1 hv k1 => ?_⟩
  obtain ⟨d, e, k2⟩ := k1.lift
  match q : argsD as, e with
  | some xs, e =>
    have hd := argsD_ok hv q
    by_cases hl : xs.length ≤ sizeLine
    · simp only [if_pos hl] at e
      cases e
      exact ⟨by rw [hd.length]; exact hl, fun p hp => k2 _ F1 _ (Same.refl _) (r1.more hp) ⟨p, _, rfl, upd_same, hd, (r1.free hp).1, (r1.free hp).2, r1.notOwn hp⟩⟩
    · simp only [if_neg hl] at e; cases e
  | none, e => cases e

/-! ### operations on two operands -/
structure OD (X : Cx) (f : Value → Value → Sem Value) (g : D → D → Option D) : Prop where
  ex : ∃ r, OpR X f r ∧ ∀ (G : Hp) (P : Nat → Option Addr) (ρ : Fr) (σ : St) (F H : Hp) (x y : V) (d e z : D) (Q : VK), Rp X.K G P ρ σ F H → RdH X.K F H x d → RdH X.K F H y e → g d e = some z →
    (∀ v F' H', Same F F' → Rp X.K G P ρ σ F' H' → Dq X.K F' v z → Q v H') → r x y H Q
def mBin (g : D → D → Option D) (ma mb : Mo Arg) : Mo D := bnd ma fun a => bnd mb fun b => bnd (opnd a) fun x => bnd (opnd b) fun y => lift (g x y)
theorem snd_bin {f : Value → Value → Sem Value} {g : D → D → Option D} {r : R2} {ma mb : Mo Arg} {ta tb : TE}
    (hg : ∀ (G : Hp) (P : Nat → Option Addr) (ρ : Fr) (σ : St) (F H : Hp) (x y : V) (d e z : D) (Q : VK), Rp X.K G P ρ σ F H → RdH X.K F H x d → RdH X.K F H y e → g d e = some z →
      (∀ v F' H', Same F F' → Rp X.K G P ρ σ F' H' → Dq X.K F' v z → Q v H') → r x y H Q)
    (sa : Snd X E (RR X.K) ma ta) (sb : Snd X E (RR X.K) mb tb) : Snd X E (RE X.K) (mBin g ma mb) (tOp r ta tb) := by
  intro G P ρ σ F H Q rr k
  refine EOK.bind (t := ta) rr k sa fun x ρ1 v F1 H1 _ r1 hv k1 => EOK.bind (t := tb) r1 k1 sb fun y ρ2 u F2 H2 s2 r2 hu k2 => ?_
  obtain ⟨d, h1, k3⟩ := k2.opnd r2 (hv.mono s2)
  obtain ⟨e, h2, k4⟩ := k3.opnd r2 hu
  obtain ⟨z, e3, k5⟩ := k4.lift
  exact hg G P ρ2 σ F2 H2 v u d e z Q r2 h1 h2 e3 fun w F' H' s r' q => k5 w F' H' s r' q
theorem de_bin {op : Operator} {g : D → D → Option D} {ma mb : Mo Arg} (ho : OD X (binaryOp op) g) (ha : DR X E a ma) (hb : DR X E b mb) : DE X E (.BinOp a op b pos) (mBin g ma mb) := by
  obtain ⟨r, o, hg⟩ := ho.ex
  obtain ⟨ta, pa, sa⟩ := ha.ex
  obtain ⟨tb, pb, sb⟩ := hb.ex
  exact ⟨_, pe_op o pa pb, snd_bin (f := binaryOp op) hg sa sb⟩
theorem de_cmp {op : CmpOp} {g : D → D → Option D} {ma mb : Mo Arg} (ho : OD X (compareOp op) g) (ha : DR X E a ma) (hb : DR X E b mb) (hm : behindInMarks op b = false := by first | exact nomark _ (by decide) (by decide) | rfl | with_unfolding_all rfl) :
    DE X E (.Compare a [op] [b] pos) (mBin g ma mb) := by
  obtain ⟨r, o, hg⟩ := ho.ex
  obtain ⟨ta, pa, sa⟩ := ha.ex
  obtain ⟨tb, pb, sb⟩ := hb.ex
  exact ⟨_, pe_cmpR o pa pb hm, snd_bin (f := compareOp op) hg sa sb⟩
theorem snd_test {m : Mo D} {t : TE} (s : Snd X E (RE X.K) m t) : Snd X E RT (mTrue m) (tTest t) := fun G P ρ σ F H Q r k => EOK.bind (t := t) r k s fun x ρ1 v F1 H1 _ r1 hv k1 => by
  cases x with
  | bool b => cases hv; exact ⟨b, rfl, k1.give r1 rfl⟩
  | _ => exact k1.elim
theorem dt_cmp {op : CmpOp} {g : D → D → Option D} {ma mb : Mo Arg} (ho : OD X (compareOp op) g) (ha : DR X E a ma) (hb : DR X E b mb) (hm : behindInMarks op b = false := by first | exact nomark _ (by decide) (by decide) | rfl | with_unfolding_all rfl) :
    DT X E (.Compare a [op] [b] pos) (mTrue (mBin g ma mb)) := by
  obtain ⟨r, o, hg⟩ := ho.ex
  obtain ⟨ta, pa, sa⟩ := ha.ex
  obtain ⟨tb, pb, sb⟩ := hb.ex
  exact ⟨_, pt_cmpR o pa pb hm, snd_test (snd_bin (f := compareOp op) hg sa sb)⟩
/-- a op b op' c -/
def mChain (g g' : D → D → Option D) (ma mb mc : Mo Arg) : Mo D := bnd ma fun a => bnd mb fun b => bnd (opnd a) fun x => bnd (opnd b) fun y => bnd (lift (g x y)) fun z => match z with
  | .bool true => bnd mc fun c => bnd (opnd b) fun y => bnd (opnd c) fun w => lift (g' y w)
  | .bool false => ret (.bool false)
  | _ => fail
theorem snd_chain {f f' : Value → Value → Sem Value} {g g' : D → D → Option D} {r r' : R2} {ma mb mc : Mo Arg} {ta tb tc : TE}
    (hg : ∀ (G : Hp) (P : Nat → Option Addr) (ρ : Fr) (σ : St) (F H : Hp) (x y : V) (d e z : D) (Q : VK), Rp X.K G P ρ σ F H → RdH X.K F H x d → RdH X.K F H y e → g d e = some z →
      (∀ v F' H', Same F F' → Rp X.K G P ρ σ F' H' → Dq X.K F' v z → Q v H') → r x y H Q)
    (hg' : ∀ (G : Hp) (P : Nat → Option Addr) (ρ : Fr) (σ : St) (F H : Hp) (x y : V) (d e z : D) (Q : VK), Rp X.K G P ρ σ F H → RdH X.K F H x d → RdH X.K F H y e → g' d e = some z →
      (∀ v F' H', Same F F' → Rp X.K G P ρ σ F' H' → Dq X.K F' v z → Q v H') → r' x y H Q)
    (sa : Snd X E (RR X.K) ma ta) (sb : Snd X E (RR X.K) mb tb) (sc : Snd X E (RR X.K) mc tc) : Snd X E (RE X.K) (mChain g g' ma mb mc) (tChain r r' ta tb tc) := by
  intro G P ρ σ F H Q rr k
  refine EOK.bind (t := ta) rr k sa fun x ρ1 v F1 H1 _ r1 hv k1 => EOK.bind (t := tb) r1 k1 sb fun y ρ2 u F2 H2 s2 r2 hu k2 => ?_
  obtain ⟨d, h1, k3⟩ := k2.opnd r2 (hv.mono s2)
  obtain ⟨e, h2, k4⟩ := k3.opnd r2 hu
  unfold bnd lift at k4
  match q : g d e, k4 with
  | some z, k4 =>
    refine hg G P ρ2 σ F2 H2 v u d e z _ r2 h1 h2 q fun w F3 H3 s3 r3 hw => ?_
    cases z with
    | bool c =>
      cases hw
      cases c with
      | false => exact ⟨false, rfl, by rw [if_neg Bool.false_ne_true]; exact k4 _ F3 H3 s3 r3 (.bl false)⟩
      | true =>
        refine ⟨true, rfl, ?_⟩
        rw [if_pos rfl]
        refine EOK.bind (t := tc) r3 (k4.mono s3) sc fun c ρ4 w F4 H4 s4 r4 hw k5 => ?_
        obtain ⟨e, h2, k6⟩ := k5.opnd r4 (hu.mono (s3.trans s4))
        obtain ⟨e', h3, k7⟩ := k6.opnd r4 hw
        obtain ⟨z, e4, k8⟩ := k7.lift
        exact hg' G P ρ4 σ F4 H4 u w e e' z Q r4 h2 h3 e4 fun w F' H' s r' q => k8 w F' H' s r' q
    | _ => exact k4.elim
  | none, k4 => exact k4.elim
theorem de_chain {op op' : CmpOp} {g g' : D → D → Option D} {ma mb mc : Mo Arg} (ho : OD X (compareOp op) g) (ho' : OD X (compareOp op') g') (ha : DR X E a ma) (hb : DR X E b mb) (hc : DR X E c mc)
    (hm : lastMarks [op, op'] [b, c] = false := by with_unfolding_all rfl) : DE X E (.Compare a [op, op'] [b, c] pos) (mChain g g' ma mb mc) := by
  obtain ⟨r, o, hg⟩ := ho.ex
  obtain ⟨r', o', hg'⟩ := ho'.ex
  obtain ⟨ta, pa, sa⟩ := ha.ex
  obtain ⟨tb, pb, sb⟩ := hb.ex
  obtain ⟨tc, pc, sc⟩ := hc.ex
  exact ⟨_, pe_chain o o' pa pb pc hm, snd_chain (f := compareOp op) (f' := compareOp op') hg hg' sa sb sc⟩
theorem dt_chain {op op' : CmpOp} {g g' : D → D → Option D} {ma mb mc : Mo Arg} (ho : OD X (compareOp op) g) (ho' : OD X (compareOp op') g') (ha : DR X E a ma) (hb : DR X E b mb) (hc : DR X E c mc)
    (hm : lastMarks [op, op'] [b, c] = false := by with_unfolding_all rfl) : DT X E (.Compare a [op, op'] [b, c] pos) (mTrue (mChain g g' ma mb mc)) := by
  obtain ⟨r, o, hg⟩ := ho.ex
  obtain ⟨r', o', hg'⟩ := ho'.ex
  obtain ⟨ta, pa, sa⟩ := ha.ex
  obtain ⟨tb, pb, sb⟩ := hb.ex
  obtain ⟨tc, pc, sc⟩ := hc.ex
  exact ⟨_, pt_chain o o' pa pb pc hm, snd_test (snd_chain (f := compareOp op) (f' := compareOp op') hg hg' sa sb sc)⟩

/-! ### and, or, not, a if b else c -/
def mAnd (m n : Mo Bool) : Mo Bool := bnd m fun b => match b with | true => n | false => ret false
def mOr (m n : Mo Bool) : Mo Bool := bnd m fun b => match b with | true => ret true | false => n
def mNot (m : Mo Bool) : Mo Bool := bnd m fun b => ret (!b)
def mIf {α : Type} (c : Mo Bool) (m n : Mo α) : Mo α := bnd c fun b => match b with | true => m | false => n
structure DW (X : Cx) (E : XK) (e : Expr) (m : Mo Bool) : Prop where
  ex : ∃ t, PW X e t ∧ Snd X E RT m t
theorem DW.dt {m : Mo Bool} (h : DW X E e m) : DT X E e m := let ⟨t, p, s⟩ := h.ex; ⟨t, p.pt, s⟩
theorem dw_and1 {m : Mo Bool} (h : DT X E a m) : DW X E (.BoolOp .And [a] pos) m := let ⟨t, p, s⟩ := h.ex; ⟨t, pw_and1 p, s⟩
theorem dw_or1 {m : Mo Bool} (h : DT X E a m) : DW X E (.BoolOp .Or [a] pos) m := let ⟨t, p, s⟩ := h.ex; ⟨t, pw_or1 p, s⟩
theorem snd_and {m n : Mo Bool} {t u : TT} (h : Snd X E RT m t) (h' : Snd X E RT n u) : Snd X E RT (mAnd m n) (tAnd t u) := fun G P ρ σ F H Q r k => EOK.bind (t := t) r k h fun b ρ1 c F1 H1 _ r1 hb k1 => by
  obtain rfl : b = c := hb
  cases b with
  | true => rw [if_pos rfl]; exact h' _ _ _ _ _ _ _ r1 k1
  | false => rw [if_neg Bool.false_ne_true]; exact k1.give r1 rfl
theorem snd_or {m n : Mo Bool} {t u : TT} (h : Snd X E RT m t) (h' : Snd X E RT n u) : Snd X E RT (mOr m n) (tOr t u) := fun G P ρ σ F H Q r k => EOK.bind (t := t) r k h fun b ρ1 c F1 H1 _ r1 hb k1 => by
  obtain rfl : b = c := hb
  cases b with
  | true => rw [if_pos rfl]; exact k1.give r1 rfl
  | false => rw [if_neg Bool.false_ne_true]; exact h' _ _ _ _ _ _ _ r1 k1
theorem dw_and {m n : Mo Bool} (h : DT X E a m) (h' : DW X E (.BoolOp .And (b :: es) pos) n) : DW X E (.BoolOp .And (a :: b :: es) pos) (mAnd m n) :=
  let ⟨_, p, s⟩ := h.ex; let ⟨_, p', s'⟩ := h'.ex; ⟨_, pw_and p p', snd_and s s'⟩
theorem dw_or {m n : Mo Bool} (h : DT X E a m) (h' : DW X E (.BoolOp .Or (b :: es) pos) n) : DW X E (.BoolOp .Or (a :: b :: es) pos) (mOr m n) :=
  let ⟨_, p, s⟩ := h.ex; let ⟨_, p', s'⟩ := h'.ex; ⟨_, pw_or p p', snd_or s s'⟩
theorem dt_not {m : Mo Bool} (h : DT X E a m) : DT X E (.UnaryOp .Not a pos) (mNot m) := by
  obtain ⟨t, p, s⟩ := h.ex
  refine ⟨_, pt_not p, fun G P ρ σ F H Q r k => EOK.bind (t := t) r k s fun b ρ1 c F1 H1 _ r1 hb k1 => ?_⟩
  obtain rfl : b = c := hb
  exact k1.give r1 rfl
def mB (m : Mo Bool) : Mo D := bnd m fun b => ret (.bool b)
/-- values that are truths -/
structure DB (X : Cx) (E : XK) (e : Expr) (m : Mo Bool) : Prop where
  ex : ∃ t, PE X e t ∧ Snd X E (fun _ _ _ _ _ b v => v = V.bl b) m t
theorem DE.db {m : Mo D} (h : DE X E e m) : DB X E e (mTrue m) := by
  obtain ⟨t, p, s⟩ := h.ex
  refine ⟨_, p, fun G P ρ σ F H Q r k => EOK.bind (t := t) r k s fun x ρ1 v F1 H1 _ r1 hv k1 => ?_⟩
  cases x with
  | bool b => cases hv; exact k1.give r1 rfl
  | _ => exact k1.elim
theorem DB.de {m : Mo Bool} (h : DB X E e m) : DE X E e (mB m) := by
  obtain ⟨t, p, s⟩ := h.ex
  refine ⟨_, p, fun G P ρ σ F H Q r k => EOK.bind (t := t) r k s fun b ρ1 v F1 H1 _ r1 hb k1 => ?_⟩
  obtain rfl : v = V.bl b := hb
  exact k1.give r1 (.bl b)
theorem db_one {op : BoolOp} {m : Mo Bool} (h : DB X E a m) : DB X E (.BoolOp op [a] pos) m := let ⟨t, p, s⟩ := h.ex; ⟨t, pe_one p, s⟩
theorem db_and {m n : Mo Bool} (h : DB X E a m) (h' : DB X E (.BoolOp .And (b :: es) pos) n) : DB X E (.BoolOp .And (a :: b :: es) pos) (mAnd m n) := by
  obtain ⟨t, p, s⟩ := h.ex
  obtain ⟨t', p', s'⟩ := h'.ex
  refine ⟨_, pe_and p p', fun G P ρ σ F H Q r k => EOK.bind (t := t) r k s fun b ρ1 v F1 H1 _ r1 hb k1 => ?_⟩
  obtain rfl : v = V.bl b := hb
  refine ⟨b, rfl, ?_⟩
  cases b with
  | true => rw [if_pos rfl]; exact s' _ _ _ _ _ _ _ r1 k1
  | false => rw [if_neg Bool.false_ne_true]; exact k1.give r1 rfl
theorem db_or {m n : Mo Bool} (h : DB X E a m) (h' : DB X E (.BoolOp .Or (b :: es) pos) n) : DB X E (.BoolOp .Or (a :: b :: es) pos) (mOr m n) := by
  obtain ⟨t, p, s⟩ := h.ex
  obtain ⟨t', p', s'⟩ := h'.ex
  refine ⟨_, pe_or p p', fun G P ρ σ F H Q r k => EOK.bind (t := t) r k s fun b ρ1 v F1 H1 _ r1 hb k1 => ?_⟩
  obtain rfl : v = V.bl b := hb
  refine ⟨b, rfl, ?_⟩
  cases b with
  | true => rw [if_pos rfl]; exact k1.give r1 rfl
  | false => rw [if_neg Bool.false_ne_true]; exact s' _ _ _ _ _ _ _ r1 k1
theorem db_not {m : Mo Bool} (h : DB X E a m) : DB X E (.UnaryOp .Not a pos) (mNot m) := by
  obtain ⟨t, p, s⟩ := h.ex
  refine ⟨_, pe_not p, fun G P ρ σ F H Q r k => EOK.bind (t := t) r k s fun b ρ1 v F1 H1 _ r1 hb k1 => ?_⟩
  obtain rfl : v = V.bl b := hb
  exact ⟨b, rfl, k1.give r1 rfl⟩
theorem de_if {c : Expr} {mc : Mo Bool} {m n : Mo D} (hc : DT X E c mc) (ha : DE X E a m) (hb : DE X E b n) : DE X E (.IfExp c a b pos) (mIf mc m n) := by
  obtain ⟨tc, pc, sc⟩ := hc.ex
  obtain ⟨ta, pa, sa⟩ := ha.ex
  obtain ⟨tb, pb, sb⟩ := hb.ex
  refine ⟨_, pe_ifExp pc pa pb, fun G P ρ σ F H Q r k => EOK.bind (t := tc) r k sc fun b ρ1 v F1 H1 _ r1 hb k1 => ?_⟩
  obtain rfl : b = v := hb
  cases b with
  | true => rw [if_pos rfl]; exact sa _ _ _ _ _ _ _ r1 k1
  | false => rw [if_neg Bool.false_ne_true]; exact sb _ _ _ _ _ _ _ r1 k1
end
end DL
end
section
namespace DL
open PySem PySem.Spec L2
open PyProof.Rows hiding St

/-! ### statements -/
inductive Fl where
  | nx | rt (s : Sl)
/-- a value that is handed on: a datum, or a fresh object -/
def RS (K : PySem.W.Frag) : Rel Sl V := fun G σ ρ F H s v => match s with
  | .d x => Dq K F v x
  | .own _ o => RO K G σ ρ F H o v
  | .un => False
structure DZ (X : Cx) (E : XK) (e : Expr) (m : Mo Sl) : Prop where
  ex : ∃ t, PE X e t ∧ Snd X E (RS X.K) m t
def SOK (X : Cx) (E : XK) (G : Hp) (P : Nat → Option Addr) (F : Hp) (Dn : Ends) : Option (Out Fl) → Prop
  | none => False
  | some (.exc c) => ∀ C H', X.mg c = some (.ref C) → Same F H' → Same G H' → E (.ref C) none H'
  | some (.ok .nx ρ') => ∀ σ' F' H', Same F F' → Rp X.K G P ρ' σ' F' H' → Dn.nx σ' H'
  | some (.ok (.rt s) ρ') => ∀ v σ' F' H', Same F F' → Rp X.K G P ρ' σ' F' H' → RS X.K G σ' ρ' F' H' s v → Dn.rt v H'
def SndS (X : Cx) (E : XK) (m : Mo Fl) (t : TS) : Prop :=
  ∀ (G : Hp) (P : Nat → Option Addr) (ρ : Fr) (σ : St) (F H : Hp) (Dn : Ends), Rp X.K G P ρ σ F H → SOK X E G P F Dn (m ρ) → t Dn σ H
structure DS (X : Cx) (E : XK) (st : Stmt) (m : Mo Fl) : Prop where
  ex : ∃ t, PS X st t ∧ SndS X E m t
structure DSs (X : Cx) (E : XK) (st : List Stmt) (m : Mo Fl) : Prop where
  ex : ∃ t, PSs X st t ∧ SndS X E m t
section
variable {X : Cx} {E : XK} {α β : Type} {R : Rel α β} {G : Hp} {P : Nat → Option Addr} {σ : St} {F F1 H : Hp} {Q : β → Hp → Prop} {Dn : Ends}
theorem SOK.mono {o : Option (Out Fl)} (h : SOK X E G P F Dn o) (s : Same F F1) : SOK X E G P F1 Dn o := by
  match o, h with
  | some (.exc c), h => exact fun C H' e a b => h C H' e (s.trans a) b
  | some (.ok .nx ρ'), h => exact fun σ' F' H' e r => h σ' F' H' (s.trans e) r
  | some (.ok (.rt s') ρ'), h => exact fun v σ' F' H' e r q => h v σ' F' H' (s.trans e) r q
theorem SOK.bind {ρ : Fr} {m : Mo α} {k : α → Mo Fl} {t : St → Hp → (β → Hp → Prop) → Prop} (r : Rp X.K G P ρ σ F H) (h : SOK X E G P F Dn (bnd m k ρ)) (hm : Snd X E R m t)
    (hk : ∀ a ρ1 b F1 H1, Same F F1 → Rp X.K G P ρ1 σ F1 H1 → R G σ ρ1 F1 H1 a b → SOK X E G P F1 Dn (k a ρ1) → Q b H1) : t σ H Q := by
  refine hm G P ρ σ F H Q r ?_
  unfold bnd at h
  match e : m ρ, h with
  | some (.exc c), h => exact h
  | some (.ok a ρ'), h => exact fun b F' H' s r' q => hk a ρ' b F' H' s r' q (h.mono s)
end

def mSeq (m n : Mo Fl) : Mo Fl := bnd m fun f => match f with
  | .nx => n
  | .rt s => ret (.rt s)
section
variable {X : Cx} {E : XK} {st : Stmt} {sts : List Stmt} {e : Expr} {pos : Pos}
theorem SndS.seq {m n : Mo Fl} {t u : TS} (h : SndS X E m t) (h' : SndS X E n u) : SndS X E (mSeq m n) (tSeq t u) := by
  intro G P ρ σ F H Dn r k
  refine h G P ρ σ F H { Dn with nx := u Dn } r ?_
  unfold mSeq bnd at k
  match e : m ρ, k with
  | some (.exc c), k => exact k
  | some (.ok .nx ρ'), k => exact fun σ' F' H' s r' => h' G P ρ' σ' F' H' Dn r' (k.mono s)
  | some (.ok (.rt s) ρ'), k => exact k
theorem dss_nil : DSs X E [] (ret .nx) := ⟨_, pss_nil, fun G P ρ σ F H Dn r k => k σ F H (Same.refl _) r⟩
theorem dss_one {m : Mo Fl} (h : DS X E st m) : DSs X E [st] m := let ⟨_, p, s⟩ := h.ex; ⟨_, pss_one p, s⟩
theorem dss_cons {m n : Mo Fl} (h : DS X E st m) (h' : DSs X E sts n) : DSs X E (st :: sts) (mSeq m n) :=
  let ⟨_, p, s⟩ := h.ex; let ⟨_, p', s'⟩ := h'.ex; ⟨_, pss_cons p p', s.seq s'⟩
theorem ds_pass : DS X E (.Pass pos) (ret .nx) := ⟨_, ps_pass, fun G P ρ σ F H Dn r k => k σ F H (Same.refl _) r⟩
/-- a way that is not taken -/
theorem ds_never : DS X E st fail := ⟨_, ps_never, fun _ _ _ _ _ _ _ _ k => k⟩
def mRet (m : Mo Sl) : Mo Fl := bnd m fun s => ret (.rt s)
theorem ds_ret {m : Mo Sl} (h : DZ X E e m) : DS X E (.Return (some e) pos) (mRet m) := by
  obtain ⟨t, p, s⟩ := h.ex
  exact ⟨_, ps_ret p, fun G P ρ σ F H Dn r k => SOK.bind (t := t) r k s fun a ρ1 v F1 H1 _ r1 hv k1 => k1 v σ F1 H1 (Same.refl _) r1 hv⟩
theorem ds_retN : DS X E (.Return none pos) (ret (.rt (.d .none))) := ⟨_, ps_retN, fun G P ρ σ F H Dn r k => k _ σ F H (Same.refl _) r .non⟩
theorem ds_expr {m : Mo Sl} (h : DZ X E e m) (hs : swapsWith e none pos.line X.env = pure false := by rfl) : DS X E (.Expr e pos) (bnd m fun _ => ret .nx) := by
  obtain ⟨t, p, s⟩ := h.ex
  exact ⟨_, ps_expr p hs, fun G P ρ σ F H Dn r k => SOK.bind (t := t) r k s fun a ρ1 v F1 H1 _ r1 hv k1 => k1 σ F1 H1 (Same.refl _) r1⟩
theorem ds_if {c : Expr} {a b : List Stmt} {mc : Mo Bool} {m n : Mo Fl} (hc : DT X E c mc) (ha : DSs X E a m) (hb : DSs X E b n) : DS X E (.If c a b pos) (mIf mc m n) := by
  obtain ⟨tc, pc, sc⟩ := hc.ex
  obtain ⟨ta, pa, sa⟩ := ha.ex
  obtain ⟨tb, pb, sb⟩ := hb.ex
  refine ⟨_, ps_if pc pa pb, fun G P ρ σ F H Dn r k => SOK.bind (t := tc) r k sc fun x ρ1 y F1 H1 _ r1 hv k1 => ?_⟩
  obtain rfl : x = y := hv
  cases x with
  | true => rw [if_pos rfl]; exact sa _ _ _ _ _ _ _ r1 k1
  | false => rw [if_neg Bool.false_ne_true]; exact sb _ _ _ _ _ _ _ r1 k1
/-! ### values handed on -/
theorem DE.dz {m : Mo D} (h : DE X E e m) : DZ X E e (bnd m fun x => ret (.d x)) := by
  obtain ⟨t, p, s⟩ := h.ex
  exact ⟨t, p, fun G P ρ σ F H Q r k => EOK.bind (t := t) r k s fun x ρ1 v F1 H1 _ r1 hv k1 => k1.give r1 hv⟩
theorem DO.dz {m : Mo Oo} (h : DO X E e m) : DZ X E e (bnd m fun x => ret (.own false x)) := by
  obtain ⟨t, p, s⟩ := h.ex
  exact ⟨t, p, fun G P ρ σ F H Q r k => EOK.bind (t := t) r k s fun x ρ1 v F1 H1 _ r1 hv k1 => k1.give r1 hv⟩
/-- frozen, if it is an object -/
def fz (s : Sl) : Mo D := match s with
  | .d x => ret x
  | .own _ (.l xs) => ret (.list xs)
  | _ => fail
theorem DZ.de {m : Mo Sl} (h : DZ X E e m) : DE X E e (bnd m fz) := by
  obtain ⟨t, p, s⟩ := h.ex
  refine ⟨t, p, fun G P ρ σ F H Q r k => EOK.bind (t := t) r k s fun x ρ1 v F1 H1 _ r1 hv k1 => ?_⟩
  match x, hv, k1 with
  | .d x, hv, k1 => exact k1.give r1 hv
  | .own b (.l xs), hv, k1 =>
    obtain ⟨p, ho, rfl, e1, e2, e3, e4, e5⟩ := hv
    cases ho with
    | lst vs => exact k1 _ _ _ (same_upd e3) (r1.froze e1 e3 e4 e5) (.lst (.inl upd_same) (DqAll.mono e2 (same_upd e3)))
    | _ => exact e2.elim
  | .own b (.k _), hv, k1 => exact k1.elim
  | .own b (.t _), hv, k1 => exact k1.elim
  | .un, hv, k1 => exact k1.elim
def mOwn (m : Mo Sl) : Mo Oo := bnd m fun s => match s with
  | .own _ o => ret o
  | _ => fail
theorem DZ.do_ {m : Mo Sl} (h : DZ X E e m) : DO X E e (mOwn m) := by
  obtain ⟨t, p, s⟩ := h.ex
  refine ⟨t, p, fun G P ρ σ F H Q r k => EOK.bind (t := t) r k s fun x ρ1 v F1 H1 _ r1 hv k1 => ?_⟩
  cases x with
  | own b o => exact k1.give r1 hv
  | d x => exact k1.elim
  | un => exact k1.elim

/-! ### assignments -/
/-- a slot is stored -/
def sto (i : Nat) (s : Sl) : Mo Fl := fun ρ => match ρ[i]? with
  | some (.own true _) => none
  | some _ => some (.ok .nx (ρ.set i s))
  | none => none
theorem sto_np {i : Nat} {s : Sl} {G : Hp} {P : Nat → Option Addr} {F : Hp} {Dn : Ends} {ρ : Fr} (h : SOK X E G P F Dn (sto i s ρ)) : (∀ o, ρ[i]? ≠ some (.own true o)) ∧ SOK X E G P F Dn (some (.ok .nx (ρ.set i s))) := by
  unfold sto at h
  match q : ρ[i]?, h with
  | some (.own false o), h => exact ⟨(by intro _ e; cases e), h⟩
  | some (.d _), h => exact ⟨(by intro _ e; cases e), h⟩
  | some .un, h => exact ⟨(by intro _ e; cases e), h⟩
theorem ds_set {i : Nat} {x : Str} {m : Mo D} {pos' : Pos} (hN : X.N.Nodup) (hi : X.N[i]? = some x) (hx : Loc X.env.scope x) (he : DE X E e m) (hs : swapsWith e (some (.Name x pos')) pos.line X.env = pure false := by rfl)
    (hf : X.fn x = true ∨ X.env.scope.names.lookup x = some .local := by first | exact .inl rfl | exact .inr rfl | assumption) : DS X E (.Assign [.Name x pos'] e pos) (bnd m fun x => sto i (.d x)) := by
  obtain ⟨t, p, s⟩ := he.ex
  refine ⟨_, ps_set hN hi hx p hs hf, fun G P ρ σ F H Dn r k => SOK.bind (t := t) r k s fun a ρ1 v F1 H1 _ r1 hv k1 => ?_⟩
  obtain ⟨np, k2⟩ := sto_np k1
  exact k2 _ F1 H1 (Same.refl _) (r1.setD hv np)
theorem ds_setO {i : Nat} {x : Str} {m : Mo Oo} {pos' : Pos} (hN : X.N.Nodup) (hi : X.N[i]? = some x) (hx : Loc X.env.scope x) (he : DO X E e m) (hs : swapsWith e (some (.Name x pos')) pos.line X.env = pure false := by rfl)
    (hf : X.fn x = true ∨ X.env.scope.names.lookup x = some .local := by first | exact .inl rfl | exact .inr rfl | assumption) : DS X E (.Assign [.Name x pos'] e pos) (bnd m fun x => sto i (.own false x)) := by
  obtain ⟨t, p, s⟩ := he.ex
  refine ⟨_, ps_set hN hi hx p hs hf, fun G P ρ σ F H Dn r k => SOK.bind (t := t) r k s fun a ρ1 v F1 H1 _ r1 hv k1 => ?_⟩
  obtain ⟨np, k2⟩ := sto_np k1
  obtain ⟨p, ho, rfl, e1, e2, e3, e4, e5⟩ := hv
  exact k2 _ F1 H1 (Same.refl _) (r1.setO e1 e2 e3 e4 e5 np)
end

/-! ### what a def promises: a function of the frame of its arguments -/
def FOK (K : PySem.W.Frag) (mg : Str → Option Value) (E : XK) (G : Hp) (P : Nat → Option Addr) (σ : St) (F : Hp) (Q : VK) : Option (Out Sl) → Prop
  | none => False
  | some (.exc c) => ∀ C H', mg c = some (.ref C) → Same F H' → Same G H' → E (.ref C) none H'
  | some (.ok s ρ') => ∀ v F' H', Same F F' → Rp K G P ρ' σ F' H' → RS K G σ ρ' F' H' s v → Q v H'
def ArgOk (n : Nat) (as : Fr) : Prop := as.length = n ∧ ∀ (i : Nat) (s : Sl), as[i]? = some s → s ≠ .un ∧ ∀ o, s ≠ .own false o
def spG (K : PySem.W.Frag) (mg : Str → Option Value) (n : Nat) (f : Mo Sl) : Sp := fun vs H Q E => ∃ (as : Fr) (F G : Hp) (P : Nat → Option Addr),
  ArgOk n as ∧ Rp K G P as (vs.map some) F H ∧ FOK K mg E G P (vs.map some) F Q (f as)
theorem spG_len {K : PySem.W.Frag} {mg : Str → Option Value} {n : Nat} {f : Mo Sl} : ∀ vs H Q E, spG K mg n f vs H Q E → vs.length = n := fun vs H Q E ⟨as, F, G, P, a, r, _⟩ => by
  have := r.len
  rw [List.length_map] at this
  rw [← this]; exact a.1
/-- at the end: what was lent stays, the rest of the frame is gone -/
def mk1 : Sl → Sl
  | .own true o => .own true o
  | _ => .un
def mask : Nat → Fr → Fr
  | 0, _ => []
  | n + 1, [] => .un :: mask n []
  | n + 1, s :: ρ => mk1 s :: mask n ρ
theorem mask_len : ∀ (n : Nat) (ρ : Fr), (mask n ρ).length = n
  | 0, _ => rfl
  | n + 1, [] => congrArg (· + 1) (mask_len n [])
  | n + 1, _ :: ρ => congrArg (· + 1) (mask_len n ρ)
theorem mask_nil : ∀ (n i : Nat) (s : Sl), (mask n [])[i]? = some s → s = .un
  | 0, _, _, h => by cases h
  | n + 1, 0, _, h => by cases h; rfl
  | n + 1, i + 1, s, h => mask_nil n i s (by simpa [mask] using h)
def mFun (n k : Nat) (body : Mo Fl) : Mo Sl := fun as => match body (as ++ List.replicate k .un) with
  | none => none
  | some (.exc c) => some (.exc c)
  | some (.ok .nx ρ') => some (.ok (.d .none) (mask n ρ'))
  | some (.ok (.rt s) ρ') => some (.ok s (mask n ρ'))
section
variable {K : PySem.W.Frag} {G : Hp} {P : Nat → Option Addr} {ρ : Fr} {σ : St} {F H : Hp}
theorem get_app_rep {α : Type} {l : List α} {k i : Nat} {a x : α} (h : (l ++ List.replicate k a)[i]? = some x) : l[i]? = some x ∨ (l.length ≤ i ∧ x = a) := by
  by_cases hi : i < l.length
  · rw [List.getElem?_append_left hi] at h; exact .inl h
  · rw [List.getElem?_append_right (by omega)] at h
    exact .inr ⟨by omega, List.eq_of_mem_replicate (List.mem_of_getElem? h)⟩
theorem get_app {α : Type} {l r : List α} {i : Nat} {x : α} (h : l[i]? = some x) : (l ++ r)[i]? = some x := by
  have hi := (List.getElem?_eq_some_iff.mp h).1
  rw [List.getElem?_append_left hi]; exact h
theorem Rp.pad (r : Rp K G P ρ σ F H) (k : Nat) : Rp K G P (ρ ++ List.replicate k .un) (σ ++ List.replicate k none) F H where
  len := by simp [r.len]
  fh := r.fh
  gh := r.gh
  dj := r.dj
  val := fun i x e => by
    rcases get_app_rep e with q | ⟨_, q⟩
    · obtain ⟨v, h1, h2⟩ := r.val i x q
      exact ⟨v, get_app h1, h2⟩
    · cases q
  own := fun i b o e => by
    rcases get_app_rep e with q | ⟨_, q⟩
    · obtain ⟨p, ho, h1, h2⟩ := r.own i b o q
      exact ⟨p, ho, get_app h1, h2⟩
    · cases q
  sep := fun i j b c o u p e1 e2 f1 f2 => by
    rcases get_app_rep e1 with q1 | ⟨_, q1⟩
    · rcases get_app_rep e2 with q2 | ⟨_, q2⟩
      · refine r.sep i j b c o u p q1 q2 ?_ ?_
        · rcases get_app_rep f1 with z | ⟨_, z⟩
          · exact z
          · cases z
        · rcases get_app_rep f2 with z | ⟨_, z⟩
          · exact z
          · cases z
      · cases q2
    · cases q1
  pin := fun i p e => by
    obtain ⟨h1, o, h2⟩ := r.pin i p e
    exact ⟨get_app h1, o, get_app h2⟩
  pin2 := fun i o e => by
    rcases get_app_rep e with q | ⟨_, q⟩
    · exact r.pin2 i o q
    · cases q
theorem mask_get : ∀ {n i : Nat} {s : Sl} {ρ : Fr}, (mask n ρ)[i]? = some s → (s = .un) ∨ ∃ o, s = .own true o ∧ ρ[i]? = some (.own true o) ∧ i < n
  | 0, _, _, _, h => by cases h
  | n + 1, i, s, [], h => .inl (mask_nil (n + 1) i s h)
  | n + 1, 0, s, u :: ρ, h => by
    have h : mk1 u = s := by simpa [mask] using h
    match u, h with
    | .un, h => exact .inl h.symm
    | .d _, h => exact .inl h.symm
    | .own false _, h => exact .inl h.symm
    | .own true o, h => exact .inr ⟨o, h.symm, rfl, Nat.succ_pos _⟩
  | n + 1, i + 1, s, u :: ρ, h => by
    rcases mask_get (n := n) (i := i) (s := s) (ρ := ρ) (by simpa [mask] using h) with q | ⟨o, h1, h2, h3⟩
    · exact .inl q
    · exact .inr ⟨o, h1, by simpa using h2, Nat.succ_lt_succ h3⟩
theorem mask_own : ∀ {n i : Nat} {o : Oo} {ρ : Fr}, ρ[i]? = some (.own true o) → i < n → (mask n ρ)[i]? = some (.own true o)
  | 0, _, _, _, _, h => by cases h
  | n + 1, i, o, [], h, _ => by cases h
  | n + 1, 0, o, u :: ρ, h, _ => by
    have h : u = .own true o := by simpa using h
    subst h
    rfl
  | n + 1, i + 1, o, u :: ρ, h, hi => by
    have q := mask_own (n := n) (i := i) (o := o) (ρ := ρ) (by simpa using h) (Nat.lt_of_succ_lt_succ hi)
    simpa [mask] using q
/-- back to the frame of the arguments -/
theorem Rp.masked {as : Fr} {vs : List V} {F0 H0 : Hp} {n : Nat} (r0 : Rp K G P as (vs.map some) F0 H0) (hn : as.length = n) (r : Rp K G P ρ σ F H) : Rp K G P (mask n ρ) (vs.map some) F H := by
  have key : ∀ {i : Nat} {o : Oo} {p : Addr}, ρ[i]? = some (.own true o) → σ[i]? = some (some (V.ref p)) → (vs.map some)[i]? = some (some (V.ref p)) := fun {i o p} e es => by
    obtain ⟨a, ha⟩ := r.pin2 i o e
    have h1 := (r.pin i a ha).1
    have h2 := (r0.pin i a ha).1
    rw [es] at h1
    cases h1
    exact h2
  exact {
    len := by
      have := r0.len
      rw [mask_len, ← hn]
      exact this
    fh := r.fh
    gh := r.gh
    dj := r.dj
    val := fun i x e => by
      rcases mask_get e with q | ⟨o, q, _⟩ <;> cases q
    own := fun i b o e => by
      rcases mask_get e with q | ⟨o, q, h, _⟩
      · cases q
      · cases q
        obtain ⟨p, ho, h1, h2⟩ := r.own i true o h
        exact ⟨p, ho, key h h1, h2⟩
    sep := fun i j b c o u p e1 e2 f1 f2 => by
      rcases mask_get e1 with q | ⟨o, q, h, _⟩
      · cases q
      rcases mask_get e2 with q' | ⟨o', q', h', _⟩
      · cases q'
      cases q; cases q'
      obtain ⟨p1, _, a1, _⟩ := r.own i true _ h
      obtain ⟨p2, _, a2, _⟩ := r.own j true _ h'
      have k1 := key h a1
      have k2 := key h' a2
      rw [f1] at k1; rw [f2] at k2
      cases k1; cases k2
      exact r.sep i j true true _ _ p h h' a1 a2
    pin := fun i p e => by
      obtain ⟨h1, o, h2⟩ := r.pin i p e
      obtain ⟨h3, o', h4⟩ := r0.pin i p e
      exact ⟨h3, o, mask_own h2 (by rw [← hn]; exact (List.getElem?_eq_some_iff.mp h4).1)⟩
    pin2 := fun i o e => by
      rcases mask_get e with q | ⟨o, q, h, _⟩
      · cases q
      · cases q; exact r.pin2 i _ h }
theorem RS.masked {as : Fr} {vs : List V} {F0 H0 : Hp} {n : Nat} {s : Sl} {v : V} (r0 : Rp K G P as (vs.map some) F0 H0) (hn : as.length = n) (r : Rp K G P ρ σ F H) (h : RS K G σ ρ F H s v) : RS K G (vs.map some) (mask n ρ) F H s v := by
  cases s with
  | d x => exact h
  | un => exact h
  | own b o =>
    obtain ⟨p, ho, e, h1, h2, h3, h4, h5⟩ := h
    refine ⟨p, ho, e, h1, h2, h3, h4, fun i b o q z => ?_⟩
    rcases mask_get q with q | ⟨o, q, w, hi⟩
    · cases q
    · cases q
      obtain ⟨a, ha⟩ := r.pin2 i _ w
      have k1 := (r.pin i a ha).1
      have k2 := (r0.pin i a ha).1
      rw [z] at k2
      cases k2
      exact h5 i true _ w k1
end
/-- THE RULE for a def: its body does m; k: how many further names it has -/
theorem fn_ok {P : Program} {w : World} {K : PySem.W.Frag} {mg : Str → Option Value} {base : Heap} {x qual : Str} {params : Arguments} {body : List Stmt} {scope : Scope} {f : Addr} {fd : FuncData} {N ps : List Str} {j k n : Nat} {m : Mo Fl}
    (F : FunD K x qual params body scope [] [] f fd) (S : FnScope N ps scope) (hn : ps.length = n) (hk : N.length - n = k) (hnk : n ≤ N.length)
    (hb : ∀ (cdv : Value) (A : Around) (outer : List Env) (s : Shared) (H : Hp) (E : XK), Room j (A.deeper (envOfC qual scope s.heap.objs.size f cdv)) → DSs (cxOf (L2.CX P w) P w K mg base N qual scope f cdv A outer s H E) E body m) :
    FnOk P w K mg base (L2.CX P w) (j + 1) f fd ps (spG K mg n (mFun n k m)) := by
  refine F.ok S (fun vs H Q E h => by rw [hn]; exact spG_len vs H Q E h) fun cdv A outer s H vs Q E hr h => ?_
  obtain ⟨t, p, snd⟩ := (hb cdv A outer s H E hr).ex
  obtain ⟨as, F0, G, P0, ha, r, k0⟩ := id h
  refine ⟨t, p, ?_⟩
  have hl := spG_len vs H Q E h
  have hst : L2.start N vs = vs.map some ++ List.replicate k none := by
    unfold L2.start
    rw [hl, hk]
  rw [hst]
  refine snd G P0 (as ++ List.replicate k Sl.un) _ F0 H _ (r.pad k) ?_
  unfold mFun at k0
  cases e : m (as ++ List.replicate k .un) with
  | none => rw [e] at k0; exact k0
  | some z =>
    rw [e] at k0
    cases z with
    | exc c => exact k0
    | ok fl ρ' =>
      cases fl with
      | nx => exact fun σ' F' H' s' r' => k0 .non F' H' s' (r.masked ha.1 r') .non
      | rt s => exact fun v σ' F' H' s' r' q => k0 v F' H' s' (r.masked ha.1 r') (RS.masked r ha.1 r' q)
end DL
end
section
namespace DL
open PySem PySem.Spec L2
open PyProof.Rows hiding St

/-! ### the call of a def -/
/-- a def as its callers know it -/
structure Cb (P : Program) (w : World) (K : PySem.W.Frag) (mg : Str → Option Value) (base : Heap) (k : Nat) (x : Str) (n : Nat) (f : Mo Sl) : Prop where
  ex : ∃ (fa : Addr) (fd : FuncData) (ps : List Str), FnOk P w K mg base (L2.CX P w) k fa fd ps (spG K mg n f) ∧ mg x = some (.ref fa) ∧ PySem.W.keepIn K (.ref fa) = true ∧ Binds K fd ps []
def noS (i : Nat) : List Arg → Bool
  | [] => true
  | .d _ :: r => noS i r
  | .s j :: r => j != i && noS i r
/-- the frame of the arguments -/
def lend (ρ : Fr) : List Arg → Option Fr
  | [] => some []
  | .d x :: r => match lend ρ r with
    | some l => some (.d x :: l)
    | none => none
  | .s i :: r => match lend ρ r with
    | some l => match ρ[i]? with
      | some (.own _ o) => if noS i r = true then some (.own true o :: l) else none
      | _ => none
    | none => none
/-- what stands at a lent slot behind the call -/
def got (i : Nat) : List Arg → Fr → Option Oo
  | .s j :: as, .own _ o :: fr => if j = i then some o else got i as fr
  | _ :: as, _ :: fr => got i as fr
  | _, _ => none
def back1 (as : List Arg) (fr : Fr) (i : Nat) : Sl → Sl
  | .own b o => match got i as fr with
    | some u => .own b u
    | none => .own b o
  | s => s
def backF (as : List Arg) (fr : Fr) : Nat → Fr → Fr
  | _, [] => []
  | i, s :: ρ => back1 as fr i s :: backF as fr (i + 1) ρ
def anyS : List Arg → Bool
  | [] => false
  | .d _ :: r => anyS r
  | .s _ :: _ => true
def back (ρ : Fr) (as : List Arg) (fr : Fr) : Fr := match anyS as with
  | true => backF as fr 0 ρ
  | false => ρ
def mCall (f : Mo Sl) (ms : Mo (List Arg)) : Mo Sl := bnd ms fun as => fun ρ => match lend ρ as with
  | none => none
  | some fr => match f fr with
    | none => none
    | some (.exc c) => some (.exc c)
    | some (.ok r fr') => some (.ok r (back ρ as fr'))

theorem backF_get {as : List Arg} {fr : Fr} : ∀ {ρ : Fr} {j i : Nat}, (backF as fr j ρ)[i]? = (ρ[i]?).map (back1 as fr (j + i))
  | [], j, i => by simp [backF]
  | s :: ρ, j, 0 => by simp [backF]
  | s :: ρ, j, i + 1 => by
    have := backF_get (as := as) (fr := fr) (ρ := ρ) (j := j + 1) (i := i)
    simp only [backF, List.getElem?_cons_succ, this]
    rw [show j + 1 + i = j + (i + 1) by omega]
theorem got_none {i : Nat} : ∀ {as : List Arg} {fr : Fr}, (∀ j : Nat, as[j]? ≠ some (Arg.s i)) → got i as fr = none
  | [], _, _ => rfl
  | .d _ :: as, [], _ => rfl
  | .s _ :: as, [], _ => rfl
  | .d _ :: as, _ :: fr, h => got_none (as := as) (fr := fr) (i := i) fun j => h (j + 1)
  | .s j :: as, .own _ o :: fr, h => by
    unfold got
    rw [if_neg fun e => h 0 (by rw [e]; rfl)]
    exact got_none (as := as) (fr := fr) (i := i) fun j => h (j + 1)
  | .s j :: as, .d _ :: fr, h => got_none (as := as) (fr := fr) (i := i) fun j => h (j + 1)
  | .s j :: as, .un :: fr, h => got_none (as := as) (fr := fr) (i := i) fun j => h (j + 1)
theorem anyS_no : ∀ {as : List Arg}, anyS as = false → ∀ (j i : Nat), as[j]? ≠ some (.s i)
  | [], _, _, _, e => by simp at e
  | .d _ :: as, h, 0, _, e => by cases e
  | .d _ :: as, h, j + 1, i, e => anyS_no (as := as) h j i (by simpa using e)
  | .s _ :: as, h, _, _, _ => by cases h
theorem back_get {ρ : Fr} {as : List Arg} {fr : Fr} {i : Nat} : (back ρ as fr)[i]? = (ρ[i]?).map (back1 as fr i) := by
  unfold back
  cases e : anyS as with
  | true =>
    have := backF_get (as := as) (fr := fr) (ρ := ρ) (j := 0) (i := i)
    rw [Nat.zero_add] at this
    exact this
  | false =>
    have h : ∀ s, back1 as fr i s = s := fun s => by
      unfold back1
      cases s with
      | own b o => simp only [got_none (fr := fr) fun j => anyS_no e j i]
      | _ => rfl
    show ρ[i]? = _
    cases ρ[i]? with
    | none => rfl
    | some s => simp [h]
theorem noS_no {i : Nat} : ∀ {as : List Arg}, noS i as = true → ∀ (j : Nat), as[j]? ≠ some (.s i)
  | [], _, _, e => by simp at e
  | .d _ :: as, h, 0, e => by cases e
  | .d _ :: as, h, j + 1, e => noS_no (as := as) h j (by simpa using e)
  | .s k :: as, h, 0, e => by
    cases e
    unfold noS at h
    simp at h
  | .s k :: as, h, j + 1, e => by
    unfold noS at h
    rw [Bool.and_eq_true] at h
    exact noS_no (as := as) h.2 j (by simpa using e)
theorem lend_get {ρ : Fr} : ∀ {as : List Arg} {fr : Fr}, lend ρ as = some fr → fr.length = as.length ∧ (∀ (j : Nat) (a : Arg), as[j]? = some a → match a with
    | .d x => fr[j]? = some (.d x)
    | .s i => ∃ b o, ρ[i]? = some (.own b o) ∧ fr[j]? = some (.own true o)) ∧ ∀ (j k i : Nat), as[j]? = some (.s i) → as[k]? = some (.s i) → j = k
  | [], fr, h => by cases h; exact ⟨rfl, fun j a e => by simp at e, fun j k i e => by simp at e⟩
  | .d x :: as, fr, h => by
    unfold lend at h
    cases e : lend ρ as with
    | none => rw [e] at h; cases h
    | some l =>
      rw [e] at h
      cases h
      obtain ⟨h1, h2, h3⟩ := lend_get e
      refine ⟨by simp [h1], fun j a q => ?_, fun j k i q1 q2 => ?_⟩
      · cases j with
        | zero => cases q; rfl
        | succ j => simpa using h2 j a (by simpa using q)
      · cases j with
        | zero => cases q1
        | succ j => cases k with
          | zero => cases q2
          | succ k => exact congrArg (· + 1) (h3 j k i (by simpa using q1) (by simpa using q2))
  | .s i0 :: as, fr, h => by
    unfold lend at h
    cases e : lend ρ as with
    | none => rw [e] at h; cases h
    | some l =>
      rw [e] at h
      obtain ⟨h1, h2, h3⟩ := lend_get e
      cases q : ρ[i0]? with
      | none => simp only [q] at h; cases h
      | some s =>
        cases s with
        | own b o =>
          simp only [q] at h
          by_cases hn : noS i0 as = true
          · rw [if_pos hn] at h
            cases h
            refine ⟨by simp [h1], fun j a z => ?_, fun j k i q1 q2 => ?_⟩
            · cases j with
              | zero => cases z; exact ⟨b, o, q, rfl⟩
              | succ j => simpa using h2 j a (by simpa using z)
            · cases j with
              | zero => cases k with
                | zero => rfl
                | succ k =>
                  cases q1
                  exact absurd (by simpa using q2) (noS_no hn k)
              | succ j => cases k with
                | zero =>
                  cases q2
                  exact absurd (by simpa using q1) (noS_no hn j)
                | succ k => exact congrArg (· + 1) (h3 j k i (by simpa using q1) (by simpa using q2))
          · rw [if_neg hn] at h; cases h
        | d x => simp only [q] at h; cases h
        | un => simp only [q] at h; cases h
theorem got_some {i : Nat} : ∀ {as : List Arg} {fr : Fr} {o : Oo}, got i as fr = some o → ∃ (j : Nat) (b : Bool), as[j]? = some (.s i) ∧ fr[j]? = some (.own b o)
  | [], _, _, h => by cases h
  | .d _ :: as, [], _, h => by cases h
  | .s _ :: as, [], _, h => by cases h
  | .d _ :: as, _ :: fr, o, h => let ⟨j, b, h1, h2⟩ := got_some (as := as) (fr := fr) h; ⟨j + 1, b, by simpa using h1, by simpa using h2⟩
  | .s k :: as, .own b u :: fr, o, h => by
    unfold got at h
    by_cases e : k = i
    · rw [if_pos e] at h; cases h; exact ⟨0, b, by rw [e]; rfl, rfl⟩
    · rw [if_neg e] at h
      obtain ⟨j, b, h1, h2⟩ := got_some (as := as) (fr := fr) h
      exact ⟨j + 1, b, by simpa using h1, by simpa using h2⟩
  | .s k :: as, .d _ :: fr, o, h => let ⟨j, b, h1, h2⟩ := got_some (as := as) (fr := fr) h; ⟨j + 1, b, by simpa using h1, by simpa using h2⟩
  | .s k :: as, .un :: fr, o, h => let ⟨j, b, h1, h2⟩ := got_some (as := as) (fr := fr) h; ⟨j + 1, b, by simpa using h1, by simpa using h2⟩
theorem got_of {i : Nat} : ∀ {as : List Arg} {fr : Fr} {j : Nat} {b : Bool} {o : Oo}, as[j]? = some (.s i) → fr[j]? = some (.own b o) → ∃ u, got i as fr = some u
  | [], _, _, _, _, h, _ => by simp at h
  | _ :: _, [], _, _, _, _, h => by simp at h
  | .d _ :: as, _ :: fr, 0, _, _, h, _ => by cases h
  | .d _ :: as, _ :: fr, j + 1, b, o, h1, h2 => got_of (as := as) (fr := fr) (j := j) (b := b) (o := o) (by simpa using h1) (by simpa using h2)
  | .s k :: as, .own c u :: fr, j, b, o, h1, h2 => by
    unfold got
    by_cases e : k = i
    · rw [if_pos e]; exact ⟨u, rfl⟩
    · rw [if_neg e]
      cases j with
      | zero => cases h1; exact absurd rfl e
      | succ j => exact got_of (as := as) (fr := fr) (j := j) (b := b) (o := o) (by simpa using h1) (by simpa using h2)
  | .s k :: as, .d _ :: fr, 0, b, o, h1, h2 => by cases h2
  | .s k :: as, .un :: fr, 0, b, o, h1, h2 => by cases h2
  | .s k :: as, .d _ :: fr, j + 1, b, o, h1, h2 => got_of (as := as) (fr := fr) (j := j) (b := b) (o := o) (by simpa using h1) (by simpa using h2)
  | .s k :: as, .un :: fr, j + 1, b, o, h1, h2 => got_of (as := as) (fr := fr) (j := j) (b := b) (o := o) (by simpa using h1) (by simpa using h2)

section
open Classical
variable {K : PySem.W.Frag} {G : Hp} {P : Nat → Option Addr} {ρ fr : Fr} {σ : St} {F H : Hp} {as : List Arg} {vs : List V}
/-- the ground of a callee: the caller's, and what the caller's slots own and do not lend -/
def OwnAt (ρ : Fr) (σ : St) (as : List Arg) (a : Addr) : Prop := ∃ (i : Nat) (b : Bool) (o : Oo), ρ[i]? = some (.own b o) ∧ σ[i]? = some (some (V.ref a)) ∧ ∀ j : Nat, as[j]? ≠ some (Arg.s i)
noncomputable def ground (G H : Hp) (ρ : Fr) (σ : St) (as : List Arg) : Hp := fun a => if OwnAt ρ σ as a then H a else G a
/-- the addresses lent -/
def pinOf (σ : St) (as : List Arg) : Nat → Option Addr := fun j => match as[j]? with
  | some (.s i) => match σ[i]? with
    | some (some (.ref p)) => some p
    | _ => none
  | _ => none
theorem ground_same (r : Rp K G P ρ σ F H) : Same G (ground G H ρ σ as) := fun a o e => by
  unfold ground
  by_cases h : OwnAt ρ σ as a
  · rw [if_pos h]; exact r.gh a o e
  · rw [if_neg h]; exact e
theorem as_d (hl : lend ρ as = some fr) {j : Nat} {x : D} (e : fr[j]? = some (.d x)) : as[j]? = some (.d x) := by
  obtain ⟨h1, h2, _⟩ := lend_get hl
  have hj : j < as.length := by rw [← h1]; exact (List.getElem?_eq_some_iff.mp e).1
  have q := h2 j as[j] (by simp [hj])
  rw [List.getElem?_eq_getElem hj]
  cases z : as[j] with
  | d y => rw [z] at q; simp only at q; rw [e] at q; cases q; rfl
  | s i => rw [z] at q; obtain ⟨b, o, _, q⟩ := q; rw [e] at q; cases q
theorem as_s (hl : lend ρ as = some fr) {j : Nat} {b : Bool} {o : Oo} (e : fr[j]? = some (.own b o)) : b = true ∧ ∃ i c, as[j]? = some (.s i) ∧ ρ[i]? = some (.own c o) := by
  obtain ⟨h1, h2, _⟩ := lend_get hl
  have hj : j < as.length := by rw [← h1]; exact (List.getElem?_eq_some_iff.mp e).1
  have q := h2 j as[j] (by simp [hj])
  rw [List.getElem?_eq_getElem hj]
  cases z : as[j] with
  | d y => rw [z] at q; simp only at q; rw [e] at q; cases q
  | s i => rw [z] at q; obtain ⟨c, o', q1, q⟩ := q; rw [e] at q; cases q; exact ⟨rfl, i, c, rfl, q1⟩
theorem Rp.lent (r : Rp K G P ρ σ F H) (hl : lend ρ as = some fr) (hv : RAs K G σ ρ F H as vs) : Rp K (ground G H ρ σ as) (pinOf σ as) fr (vs.map some) F H := by
  obtain ⟨h1, h2, h3⟩ := lend_get hl
  have at_ : ∀ {j : Nat} {a : Arg}, as[j]? = some a → ∃ v, vs[j]? = some v ∧ RR K G σ ρ F H a v := fun {j a} e => by
    have hj : j < vs.length := by rw [← hv.1]; exact (List.getElem?_eq_some_iff.mp e).1
    exact ⟨vs[j], by simp [hj], hv.2 j a _ e (by simp [hj])⟩
  have own_ : ∀ {j : Nat} {b : Bool} {o : Oo}, fr[j]? = some (.own b o) → ∃ i c p ho, as[j]? = some (.s i) ∧ ρ[i]? = some (.own c o) ∧ σ[i]? = some (some (V.ref p)) ∧ (vs.map some)[j]? = some (some (V.ref p)) ∧ H p = some ho ∧ RpO K F ho o ∧ F p = none ∧ G p = none := fun {j b o} e => by
    obtain ⟨_, i, c, e1, e2⟩ := as_s hl e
    obtain ⟨p, ho, q1, q2, q3, q4, q5⟩ := r.own i c o e2
    obtain ⟨v, q6, q7⟩ := at_ e1
    have q7 : σ[i]? = some (some v) := q7
    rw [q1] at q7
    cases q7
    exact ⟨i, c, p, ho, e1, e2, q1, by rw [List.getElem?_map, q6]; rfl, q2, q3, q4, q5⟩
  exact {
    len := by rw [List.length_map, h1, hv.1]
    fh := r.fh
    gh := fun a o e => by
      unfold ground at e
      by_cases h : OwnAt ρ σ as a
      · rw [if_pos h] at e; exact e
      · rw [if_neg h] at e; exact r.gh a o e
    dj := fun a o e => by
      unfold ground at e
      by_cases h : OwnAt ρ σ as a
      · obtain ⟨i, b, u, q1, q2, _⟩ := h
        obtain ⟨p, ho, z1, z2, z3, z4, z5⟩ := r.own i b u q1
        rw [q2] at z1
        cases z1
        exact z4
      · rw [if_neg h] at e; exact r.dj a o e
    val := fun j x e => by
      obtain ⟨v, q1, q2⟩ := at_ (as_d hl e)
      exact ⟨v, by rw [List.getElem?_map, q1]; rfl, q2⟩
    own := fun j b o e => by
      obtain ⟨i, c, p, ho, e1, e2, e3, e4, e5, e6, e7, e8⟩ := own_ e
      refine ⟨p, ho, e4, e5, e6, e7, ?_⟩
      unfold ground
      rw [if_neg ?_]
      · exact e8
      · rintro ⟨i', b', o', q1, q2, q3⟩
        have : i = i' := r.sep i i' c b' o o' p e2 q1 e3 q2
        rw [this] at e1
        exact q3 j e1
    sep := fun j k b c o u p e1 e2 f1 f2 => by
      obtain ⟨i, c1, p1, _, a1, a2, a3, a4, _⟩ := own_ e1
      obtain ⟨i', c2, p2, _, b1, b2, b3, b4, _⟩ := own_ e2
      rw [f1] at a4; rw [f2] at b4
      cases a4; cases b4
      have : i = i' := r.sep i i' c1 c2 _ _ p a2 b2 a3 b3
      rw [this] at a1
      exact h3 j k i' a1 b1
    pin := fun j p e => by
      unfold pinOf at e
      cases q : as[j]? with
      | none => rw [q] at e; cases e
      | some a =>
        rw [q] at e
        cases a with
        | d x => cases e
        | s i =>
          obtain ⟨b, o, q1, q2⟩ : ∃ b o, ρ[i]? = some (.own b o) ∧ fr[j]? = some (.own true o) := h2 j _ q
          obtain ⟨i', c, p', ho, e1, e2, e3, e4, _⟩ := own_ q2
          rw [q] at e1
          cases e1
          simp only [e3] at e
          cases e
          exact ⟨e4, o, q2⟩
    pin2 := fun j o e => by
      obtain ⟨i, c, p, ho, e1, e2, e3, _⟩ := own_ e
      exact ⟨p, by unfold pinOf; simp only [e1, e3]⟩ }
/-- behind the call -/
theorem Rp.came {fr' : Fr} {F' H' : Hp} (r : Rp K G P ρ σ F H) (hl : lend ρ as = some fr) (hv : RAs K G σ ρ F H as vs) (s : Same F F') (r' : Rp K (ground G H ρ σ as) (pinOf σ as) fr' (vs.map some) F' H') : Rp K G P (back ρ as fr') σ F' H' := by
  obtain ⟨h1, h2, h3⟩ := lend_get hl
  have own_ : ∀ {i : Nat} {b : Bool} {o : Oo}, (back ρ as fr')[i]? = some (.own b o) → ∃ o0 p ho, ρ[i]? = some (.own b o0) ∧ σ[i]? = some (some (V.ref p)) ∧ H' p = some ho ∧ RpO K F' ho o ∧ F' p = none ∧ G p = none := fun {i b o} e => by
    rw [back_get] at e
    cases q : ρ[i]? with
    | none => rw [q] at e; cases e
    | some sl =>
      rw [q] at e
      cases sl with
      | d x => cases e
      | un => cases e
      | own b0 o0 =>
        obtain ⟨p, ho, q1, q2, q3, q4, q5⟩ := r.own i b0 o0 q
        have e : back1 as fr' i (.own b0 o0) = .own b o := by simpa using e
        unfold back1 at e
        cases g : got i as fr' with
        | some u =>
          simp only [g] at e
          cases e
          obtain ⟨j, c, g1, g2⟩ := got_some g
          have hp : pinOf σ as j = some p := by unfold pinOf; simp only [g1, q1]
          obtain ⟨z1, o', z2⟩ := r'.pin j p hp
          rw [g2] at z2
          cases z2
          obtain ⟨p', ho', w1, w2, w3, w4, w5⟩ := r'.own j true _ g2
          rw [z1] at w1
          cases w1
          exact ⟨o0, p, ho', rfl, q1, w2, w3, w4, q5⟩
        | none =>
          simp only [g] at e
          cases e
          have na : ∀ j : Nat, as[j]? ≠ some (Arg.s i) := fun j hj => by
            have hp : pinOf σ as j = some p := by unfold pinOf; simp only [hj, q1]
            obtain ⟨z1, o', z2⟩ := r'.pin j p hp
            obtain ⟨u, hu⟩ := got_of hj z2
            rw [g] at hu
            cases hu
          have hg : ground G H ρ σ as p = some ho := by
            unfold ground
            rw [if_pos ⟨i, b, o, q, q1, na⟩]
            exact q2
          exact ⟨o, p, ho, rfl, q1, r'.gh p ho hg, q3.mono s, r'.dj p ho hg, q5⟩
  exact {
    len := by
      rw [← r.len]
      unfold back
      cases anyS as with
      | true =>
        have : ∀ (j : Nat) (l : Fr), (backF as fr' j l).length = l.length := fun j l => by
          induction l generalizing j with
          | nil => rfl
          | cons s l ih => exact congrArg (· + 1) (ih _)
        exact this 0 ρ
      | false => rfl
    fh := r'.fh
    gh := fun a o e => r'.gh a o (ground_same r a o e)
    dj := fun a o e => r'.dj a o (ground_same r a o e)
    val := fun i x e => by
      rw [back_get] at e
      cases q : ρ[i]? with
      | none => rw [q] at e; cases e
      | some sl =>
        rw [q] at e
        cases sl with
        | d y =>
          have e : y = x := by simpa [back1] using e
          rw [e] at q
          obtain ⟨v, a, b⟩ := r.val i x q
          exact ⟨v, a, b.mono s⟩
        | un => simp [back1] at e
        | own b o =>
          have e : back1 as fr' i (.own b o) = .d x := by simpa using e
          unfold back1 at e
          cases g : got i as fr' with
          | none => rw [g] at e; cases e
          | some u => rw [g] at e; cases e
    own := fun i b o e => by
      obtain ⟨_, p, ho, _, q⟩ := own_ e
      exact ⟨p, ho, q⟩
    sep := fun i j b c o u p e1 e2 f1 f2 => by
      obtain ⟨o1, _, _, q1, _⟩ := own_ e1
      obtain ⟨o2, _, _, q2, _⟩ := own_ e2
      exact r.sep i j b c o1 o2 p q1 q2 f1 f2
    pin := fun i p e => by
      obtain ⟨z1, o, z2⟩ := r.pin i p e
      refine ⟨z1, ?_⟩
      rw [back_get, z2]
      show ∃ o', some (back1 as fr' i (.own true o)) = _
      unfold back1
      cases got i as fr' with
      | some u => exact ⟨u, rfl⟩
      | none => exact ⟨o, rfl⟩
    pin2 := fun i o e => by
      obtain ⟨o1, _, _, q1, _⟩ := own_ e
      exact r.pin2 i o1 q1 }
theorem RS.came {fr' : Fr} {F' H' : Hp} {s : Sl} {v : V} (r : Rp K G P ρ σ F H) (hl : lend ρ as = some fr) (r' : Rp K (ground G H ρ σ as) (pinOf σ as) fr' (vs.map some) F' H') (h : RS K (ground G H ρ σ as) (vs.map some) fr' F' H' s v) : RS K G σ (back ρ as fr') F' H' s v := by
  cases s with
  | d x => exact h
  | un => exact h
  | own b o =>
    obtain ⟨p, ho, e, h1, h2, h3, h4, h5⟩ := h
    refine ⟨p, ho, e, h1, h2, h3, ?_, fun i c u q z => ?_⟩
    · cases g : G p with
      | none => rfl
      | some w =>
        have := ground_same (as := as) r p w g
        rw [h4] at this; cases this
    · rw [back_get] at q
      cases q0 : ρ[i]? with
      | none => rw [q0] at q; cases q
      | some sl =>
        rw [q0] at q
        cases sl with
        | d x => simp [back1] at q
        | un => simp [back1] at q
        | own b0 o0 =>
          by_cases na : ∃ j : Nat, as[j]? = some (Arg.s i)
          · obtain ⟨j, hj⟩ := na
            have hp : pinOf σ as j = some p := by unfold pinOf; simp only [hj, z]
            obtain ⟨z1, o', z2⟩ := r'.pin j p hp
            exact h5 j true o' z2 z1
          · obtain ⟨p', ho', w1, w2, _⟩ := r.own i b0 o0 q0
            rw [z] at w1
            cases w1
            have hg : ground G H ρ σ as p = some ho' := by
              unfold ground
              rw [if_pos ⟨i, b0, o0, q0, z, fun j hj => na ⟨j, hj⟩⟩]
              exact w2
            rw [h4] at hg; cases hg
end
section
variable {X : Cx} {E : XK} {e : Expr} {es : List Expr} {pos p : Pos} {x : Str}
theorem dz_call {k n : Nat} {f : Mo Sl} {ms : Mo (List Arg)} (tk : Takes X (fun c d _ H => E c d H)) (C : Cb X.prog X.w X.K X.mg X.base k x n f) (hr : Room k X.A) (hg : Gl X x) (ha : DA X E (e :: es) ms) (hn : (e :: es).length = n := by rfl) (hdb : (x == ("__debug__" : Str)) = false := by decide)
    (he : starEach (e :: es) X.env = (false, eval e X.env) :: starEach es X.env := by rfl) (hpl : (backTo pos (starEach es X.env)).any (·.1) = false := by rfl) :
    DZ X E (.Call (.Name x p) (e :: es) [] pos) (mCall f ms) := by
  obtain ⟨fa, fd, ps, F, hm, hk, hb⟩ := C.ex
  obtain ⟨t, pt, s⟩ := ha.ex
  refine ⟨_, pe_callS F hr hg hm hk hb (fun σ => passAt tk σ) pt hdb he hpl, fun G P ρ σ F0 H Q r k => EOK.bindE (t := t) r k s fun as ρ1 vs F1 H1 el _ r1 hv k1 => ?_⟩
  cases hl : lend ρ1 as with
  | none => simp only [hl] at k1; exact k1.elim
  | some fr =>
    simp only [hl] at k1
    refine ⟨fr, F1, ground G H1 ρ1 σ as, pinOf σ as, ⟨?_, fun i sl e => ?_⟩, r1.lent hl hv, ?_⟩
    · rw [(lend_get hl).1, ← hn]; exact ha.len _ _ _ el
    · cases sl with
      | un =>
        obtain ⟨h1, h2, _⟩ := lend_get hl
        have hj : i < as.length := by rw [← h1]; exact (List.getElem?_eq_some_iff.mp e).1
        have q := h2 i as[i] (by simp [hj])
        cases z : as[i] with
        | d y => rw [z] at q; simp only at q; rw [e] at q; cases q
        | s i => rw [z] at q; obtain ⟨c, o', q1, q⟩ := q; rw [e] at q; cases q
      | d x => exact ⟨by simp, by simp⟩
      | own b o => exact ⟨by simp, fun o' q => by rw [(as_s hl e).1] at q; cases q⟩
    · cases hf : f fr with
      | none => simp only [hf] at k1; exact k1.elim
      | some z =>
        simp only [hf] at k1
        cases z with
        | exc c => exact fun C H' h1 h2 h3 => k1 C H' h1 h2 fun a o e => h3 a o (ground_same r1 a o e)
        | ok sl fr' => exact fun v F' H' s' r' q => k1 v F' H' s' (r1.came hl hv s' r') (RS.came r1 hl r' q)
end
end DL
end
section
namespace DL
open PySem PySem.Spec L2
open PyProof.Rows hiding St

section
variable {K : PySem.W.Frag} {F H : Hp} {v : V}
theorem RdH.int {i : Int} (h : RdH K F H v (.int i)) : v = .int i := by
  rcases h with h | ⟨p, vs, xs, _, e, _⟩
  · cases h; rfl
  · cases e
theorem RdH.bool {b : Bool} (h : RdH K F H v (.bool b)) : v = .bl b := by
  rcases h with h | ⟨p, vs, xs, _, e, _⟩
  · cases h; rfl
  · cases e
theorem RdH.str {z : Str} (h : RdH K F H v (.str z)) : v = .str z := by
  rcases h with h | ⟨p, vs, xs, _, e, _⟩
  · cases h; rfl
  · cases e
theorem RdH.non (h : RdH K F H v .none) : v = .non := by
  rcases h with h | ⟨p, vs, xs, _, e, _⟩
  · cases h; rfl
  · cases e
theorem RdH.tup {xs : List D} (h : RdH K F H v (.tuple xs)) : ∃ a vs, v = .ref a ∧ SqT K F a vs ∧ DqAll K F vs xs := by
  rcases h with h | ⟨p, vs, ys, _, e, _⟩
  · cases h with
    | tup s a => exact ⟨_, _, rfl, s, a⟩
  · cases e
theorem RdH.scr {x : D} (h : RdH K F H v (.dict [(.none, x)])) (s : Same F H) : ∃ (a : Addr) (ns : List Int), v = .ref a ∧ SqL K H a (ns.map V.int) ∧ x = .list (ns.map PyData.int) := by
  rcases h with h | ⟨p, vs, ys, _, e, _⟩
  · cases h with
    | scr h => exact ⟨_, _, rfl, s.seq h, rfl⟩
  · cases e
theorem RdH.list {xs : List D} (h : RdH K F H v (.list xs)) (s : Same F H) : ∃ a vs, v = .ref a ∧ Rd H a (.lst vs) ∧ DqAll K F vs xs := by
  rcases h with h | ⟨p, vs, ys, rfl, e, q, a⟩
  · cases h with
    | lst r a => exact ⟨_, _, rfl, Same.rd s r, a⟩
  · cases e; exact ⟨p, vs, rfl, .inl q, a⟩
def isN : D → Bool
  | .none => true
  | _ => false
theorem RdH.nonN {x : D} (h : RdH K F H v x) : decide (v = .non) = isN x := by
  rcases h with h | ⟨p, vs, ys, rfl, rfl, q, a⟩
  · cases h <;> simp [isN]
  · simp [isN]
end
section
variable {X : Cx} {pins : List (Addr × Obj)} {σ : St} {H : Hp} {s : Shared}
theorem Inv.lstR {l : Addr} {xs : List V} (I : Inv X pins σ H s) (hH : Rd H l (.lst xs)) : xs.length ≤ sizeLine ∧ ∃ (its : List Value) (n : Nat), Vals xs its ∧ xs.length = its.length ∧ s.heap.get? l = some { cls := .type "list", data := .seq its.toArray n } := by
  obtain ⟨z, its, n, r, e⟩ := hH.ok I.hok
  exact ⟨z, its, n, r, r.length, e⟩
end
def mulOk (i j : Int) : Prop := i.natAbs.log2 + j.natAbs.log2 < 134217000
instance (i j : Int) : Decidable (mulOk i j) := Nat.decLt _ _
theorem mulOk.ok {i j : Int} (h : mulOk i j) : IntMulOk i j := by
  have b : ∀ x : Int, Builtin.Int.intBits x ≤ x.natAbs.log2 + 1 := fun x => by
    unfold Builtin.Int.intBits
    split <;> omega
  have h1 := b i
  have h2 := b j
  have h3 : i.natAbs.log2 + j.natAbs.log2 < 134217000 := h
  have e : bitsLine = 134217728 := by decide
  unfold IntMulOk
  intro z
  rw [Bool.and_eq_true] at z
  have z2 := z.2
  unfold Builtin.Int.intTooBig at z2
  have z3 := of_decide_eq_true z2
  rw [e] at z3
  omega
section
variable {X : Cx}
theorem op_mulB : OpR X (binaryOp .Mult) (rI mulOk fun i j => .int (i * j)) := opI fun _ _ _ _ _ _ _ hc q => mul_int q hc.ok
def divOk (i j : Int) : Prop := j ≠ 0 ∧ Builtin.divisionGoesByPylong i j = false
instance (i j : Int) : Decidable (divOk i j) := instDecidableAnd
theorem op_fdivB : OpR X (binaryOp .FloorDiv) (rI divOk fun i j => .int (i.fdiv j)) := opI fun _ _ _ _ _ _ _ hc q => floordiv_int hc.1 q (.inl hc.2)
/-- list + list -/
def rCatR : R2 := fun x y H Q => ∃ l b xs zs, x = .ref l ∧ y = .ref b ∧ Rd H l (.lst xs) ∧ Rd H b (.lst zs) ∧ xs.length + zs.length ≤ sizeLine ∧ ∀ p, H p = none → Q (.ref p) (upd H p (.lst (xs ++ zs)))
theorem op_catR : OpR X (binaryOp .Add) rCatR := by
  intro pins s σ H x y v u Q I rx ry h
  obtain ⟨l, b, xs, zs, rfl, rfl, hH, hB, hz, q⟩ := h
  cases rx
  cases ry
  obtain ⟨z, its, n, r, hl, e⟩ := Inv.lstR I hH
  obtain ⟨z2, its2, n2, r2, hl2, e2⟩ := Inv.lstR I hB
  refine PySem.P.add_list e e2 ?_ (by rw [List.size_toArray, List.size_toArray]; omega)
  have ea : its.toArray ++ its2.toArray = (its ++ its2).toArray := by simp
  rw [ea]
  exact ⟨.ref _, _, I.lnew (t' := s.toks) (r.append r2) (by rw [List.length_append]; omega), rfl, q _ I.fresh⟩

/-! ### operations whose answer is a datum -/
def opAdd : D → D → Option D
  | .int i, .int j => some (.int (i + j))
  | .str a, .str b => if a.length + b.length ≤ sizeLine then some (.str (a ++ b)) else none
  | .tuple xs, .tuple ys => if xs.length + ys.length ≤ sizeLine then some (.tuple (xs ++ ys)) else none
  | _, _ => none
theorem od_add : OD X (binaryOp .Add) opAdd := by
  refine ⟨_, op_add.or (op_add_str.or op_catA), fun G P ρ σ F H x y d e z Q r hx hy hg k => ?_⟩
  unfold opAdd at hg
  split at hg
  · cases hg
    rw [hx.int, hy.int]
    exact .inl ⟨_, _, rfl, rfl, k _ F H (Same.refl _) r (.int _)⟩
  · split at hg
    · cases hg
      rw [hx.str, hy.str]
      exact .inr (.inl ⟨_, _, rfl, rfl, by assumption, k _ F H (Same.refl _) r (.str _)⟩)
    · cases hg
  · split at hg
    · cases hg
      obtain ⟨a, vs, rfl, h1, h2⟩ := hx.tup
      obtain ⟨b, ws, rfl, h3, h4⟩ := hy.tup
      refine .inr (.inr ⟨a, b, vs, ws, rfl, rfl, Same.sqT r.fh h1, Same.sqT r.fh h3, by rw [h2.length, h4.length]; assumption, fun q => ?_, fun _ q => ?_, fun _ _ p hp => ?_⟩)
      · subst q
        cases h2
        exact k _ F H (Same.refl _) r (.tup h3 h4)
      · subst q
        cases h4
        rw [List.append_nil] at k
        exact k _ F H (Same.refl _) r (.tup h1 h2)
      · have s := same_upd (F := F) (o := .tup (vs ++ ws)) (r.free hp).1
        exact k _ _ _ s (r.grow hp) (.tup (.inl (.inl upd_same)) ((h2.mono s).append (h4.mono s)))
    · cases hg
  · cases hg
def opSub : D → D → Option D
  | .int i, .int j => some (.int (i - j))
  | _, _ => none
theorem od_sub : OD X (binaryOp .Sub) opSub := by
  refine ⟨_, op_sub, fun G P ρ σ F H x y d e z Q r hx hy hg k => ?_⟩
  unfold opSub at hg
  split at hg
  · cases hg
    rw [hx.int, hy.int]
    exact ⟨_, _, rfl, rfl, k _ F H (Same.refl _) r (.int _)⟩
  · cases hg
def opMul : D → D → Option D
  | .int i, .int j => if mulOk i j then some (.int (i * j)) else none
  | .tuple xs, .int k => if xs ≠ [] ∧ 2 ≤ k ∧ k ≤ 1000 ∧ xs.length ≤ 1000 then some (.tuple (List.replicate k.toNat xs).flatten) else none
  | _, _ => none
theorem od_mul : OD X (binaryOp .Mult) opMul := by
  refine ⟨_, op_mulB.or op_repT, fun G P ρ σ F H x y d e z Q r hx hy hg k => ?_⟩
  unfold opMul at hg
  split at hg
  · split at hg
    · cases hg
      rw [hx.int, hy.int]
      exact .inl ⟨_, _, rfl, rfl, by assumption, k _ F H (Same.refl _) r (.int _)⟩
    · cases hg
  · split at hg
    · rename_i k1 hc
      cases hg
      obtain ⟨a, vs, rfl, h1, h2⟩ := hx.tup
      rw [hy.int]
      refine .inr ⟨a, _, vs, rfl, rfl, Same.sqT r.fh h1, fun q => hc.1 ?_, hc.2.1, hc.2.2.1, by rw [h2.length]; exact hc.2.2.2, fun p hp => ?_⟩
      · subst q; cases h2; rfl
      · have s := same_upd (F := F) (o := .tup (List.replicate (Int.toNat k1) vs).flatten) (r.free hp).1
        exact k _ _ _ s (r.grow hp) (.tup (.inl (.inl upd_same)) ((h2.mono s).flatRep _))
    · cases hg
  · cases hg
def opFdiv : D → D → Option D
  | .int i, .int j => if divOk i j then some (.int (i.fdiv j)) else none
  | _, _ => none
theorem od_fdiv : OD X (binaryOp .FloorDiv) opFdiv := by
  refine ⟨_, op_fdivB, fun G P ρ σ F H x y d e z Q r hx hy hg k => ?_⟩
  unfold opFdiv at hg
  split at hg
  · split at hg
    · cases hg
      rw [hx.int, hy.int]
      exact ⟨_, _, rfl, rfl, by assumption, k _ F H (Same.refl _) r (.int _)⟩
    · cases hg
  · cases hg
def opMod : D → D → Option D
  | .int i, .int j => if j ≠ 0 then some (.int (i.fmod j)) else none
  | _, _ => none
theorem od_mod : OD X (binaryOp .Mod) opMod := by
  refine ⟨_, op_modN, fun G P ρ σ F H x y d e z Q r hx hy hg k => ?_⟩
  unfold opMod at hg
  split at hg
  · split at hg
    · cases hg
      rw [hx.int, hy.int]
      exact ⟨_, _, rfl, rfl, by assumption, k _ F H (Same.refl _) r (.int _)⟩
    · cases hg
  · cases hg
def opPow : D → D → Option D
  | .int i, .int j => if 0 ≤ j ∧ j ≤ 1000000 ∧ i.natAbs < 2 ^ 64 then some (.int (i ^ j.toNat)) else none
  | _, _ => none
theorem od_pow : OD X (binaryOp .Pow) opPow := by
  refine ⟨_, op_pow, fun G P ρ σ F H x y d e z Q r hx hy hg k => ?_⟩
  unfold opPow at hg
  split at hg
  · split at hg
    · cases hg
      rw [hx.int, hy.int]
      exact ⟨_, _, rfl, rfl, by assumption, k _ F H (Same.refl _) r (.int _)⟩
    · cases hg
  · cases hg
/-! ### comparisons -/
def cI (f : Int → Int → Bool) : D → D → Option D
  | .int i, .int j => some (.bool (f i j))
  | _, _ => none
theorem od_cI {op : CmpOp} {f : Int → Int → Bool} (h : OpR X (compareOp op) (rI0 fun i j => .bl (f i j))) : OD X (compareOp op) (cI f) := by
  refine ⟨_, h, fun G P ρ σ F H x y d e z Q r hx hy hg k => ?_⟩
  unfold cI at hg
  split at hg
  · cases hg
    rw [hx.int, hy.int]
    exact ⟨_, _, rfl, rfl, k _ F H (Same.refl _) r (.bl _)⟩
  · cases hg
abbrev opLt := cI fun i j => decide (i < j)
abbrev opLe := cI fun i j => decide (i ≤ j)
abbrev opGt := cI fun i j => decide (j < i)
abbrev opGe := cI fun i j => decide (j ≤ i)
theorem od_lt : OD X (compareOp .Lt) opLt := od_cI op_lt
theorem od_le : OD X (compareOp .LtE) opLe := od_cI op_le
theorem od_gt : OD X (compareOp .Gt) opGt := od_cI op_gt
theorem od_ge : OD X (compareOp .GtE) opGe := od_cI op_ge
/-- == of data -/
def eqD : D → D → Option Bool
  | .int i, .int j => some (decide (i = j))
  | .str a, .str b => some (decide (a = b))
  | d, e => if SeqAt.shaped d = true ∧ SeqAt.shaped e = true then some (PyData.eqv d e) else none
def opEq (d e : D) : Option D := match eqD d e with
  | some b => some (.bool b)
  | none => none
def opNe (d e : D) : Option D := match eqD d e with
  | some b => some (.bool (!b))
  | none => none
theorem eqD_ok {K : PySem.W.Frag} {F H : Hp} {x y : V} {d e : D} {b : Bool} (hx : RdH K F H x d) (hy : RdH K F H y e) (s : Same F H) (h : eqD d e = some b) : (scal x y = true ∧ decide (x = y) = b) ∨ ∃ d e, Dp K H x d ∧ Dp K H y e ∧ SeqAt.shaped d = true ∧ SeqAt.shaped e = true ∧ PyData.eqv d e = b := by
  unfold eqD at h
  split at h
  · cases h
    rw [hx.int, hy.int]
    exact .inl ⟨rfl, by simp⟩
  · cases h
    rw [hx.str, hy.str]
    exact .inl ⟨rfl, by simp⟩
  · split at h
    · rename_i hc
      cases h
      exact .inr ⟨_, _, (hx.dq s).dp (SeqAt.canLay_of_shaped hc.1), (hy.dq s).dp (SeqAt.canLay_of_shaped hc.2), hc.1, hc.2, rfl⟩
    · cases h
theorem od_eq (hu : X.A.units + 64 < cLine) : OD X (compareOp .Eq) opEq := by
  refine ⟨_, op_eq.or (op_eqD hu), fun G P ρ σ F H x y d e z Q r hx hy hg k => ?_⟩
  unfold opEq at hg
  cases q : eqD d e with
  | none => rw [q] at hg; cases hg
  | some b =>
    rw [q] at hg
    cases hg
    rcases eqD_ok hx hy r.fh q with ⟨h1, h2⟩ | ⟨d, e, h1, h2, h3, h4, h5⟩
    · exact .inl ⟨h1, by rw [h2]; exact k _ F H (Same.refl _) r (.bl _)⟩
    · exact .inr ⟨d, e, h1, h2, h3, h4, by rw [h5]; exact k _ F H (Same.refl _) r (.bl _)⟩
theorem od_ne (hu : X.A.units + 64 < cLine) : OD X (compareOp .NotEq) opNe := by
  refine ⟨_, op_ne.or (op_neD hu), fun G P ρ σ F H x y d e z Q r hx hy hg k => ?_⟩
  unfold opNe at hg
  cases q : eqD d e with
  | none => rw [q] at hg; cases hg
  | some b =>
    rw [q] at hg
    cases hg
    rcases eqD_ok hx hy r.fh q with ⟨h1, h2⟩ | ⟨d, e, h1, h2, h3, h4, h5⟩
    · exact .inl ⟨h1, by rw [h2]; exact k _ F H (Same.refl _) r (.bl _)⟩
    · exact .inr ⟨d, e, h1, h2, h3, h4, by rw [h5]; exact k _ F H (Same.refl _) r (.bl _)⟩
def opIs : D → D → Option D
  | d, .none => some (.bool (isN d))
  | .bool a, .bool b => some (.bool (decide (a = b)))
  | _, _ => none
def opIsNot : D → D → Option D
  | d, .none => some (.bool (!isN d))
  | .bool a, .bool b => some (.bool (!decide (a = b)))
  | _, _ => none
theorem od_is : OD X (compareOp .Is) opIs := by
  refine ⟨_, op_isN.or op_is_bl, fun G P ρ σ F H x y d e z Q r hx hy hg k => ?_⟩
  unfold opIs at hg
  split at hg
  · cases hg
    refine .inl ⟨hy.non, ?_⟩
    rw [hx.nonN]
    exact k _ F H (Same.refl _) r (.bl _)
  · cases hg
    exact .inr ⟨_, _, hx.bool, hy.bool, k _ F H (Same.refl _) r (.bl _)⟩
  · cases hg
theorem od_isnot : OD X (compareOp .IsNot) opIsNot := by
  refine ⟨_, op_notN.or op_isnot_bl, fun G P ρ σ F H x y d e z Q r hx hy hg k => ?_⟩
  unfold opIsNot at hg
  split at hg
  · cases hg
    refine .inl ⟨hy.non, ?_⟩
    rw [hx.nonN]
    exact k _ F H (Same.refl _) r (.bl _)
  · cases hg
    exact .inr ⟨_, _, hx.bool, hy.bool, k _ F H (Same.refl _) r (.bl _)⟩
  · cases hg
/-! ### in -/
def rInT (K : PySem.W.Frag) : R2 := fun x y H Q => ∃ d ds, Dp K H x d ∧ Dp K H y (.tuple ds) ∧ SeqAt.shaped d = true ∧ SeqAt.shaped (.tuple ds) = true ∧ Q (.bl (ds.any fun z => PyData.eqv z d)) H
def rNotInT (K : PySem.W.Frag) : R2 := fun x y H Q => ∃ d ds, Dp K H x d ∧ Dp K H y (.tuple ds) ∧ SeqAt.shaped d = true ∧ SeqAt.shaped (.tuple ds) = true ∧ Q (.bl (!ds.any fun z => PyData.eqv z d)) H
theorem op_inT (hu : X.A.units + 65 < cLine) : OpR X (compareOp .In) (rInT X.K) := by
  intro pins s σ H x y v u Q I rx ry h
  obtain ⟨d, ds, hd, he, sd, se, q⟩ := h
  obtain ⟨as, r1⟩ := Dp.reads I d x v hd rx
  obtain ⟨bs, r2⟩ := Dp.reads I (.tuple ds) y u he ry
  exact SeqAt.in_tuple_reads r2 r1 (SeqAt.canLay_of_shaped se) (SeqAt.canLay_of_shaped sd) (room_in_shaped sd hu) ⟨.bl _, H, I, rfl, q⟩
theorem op_notInT (hu : X.A.units + 65 < cLine) : OpR X (compareOp .NotIn) (rNotInT X.K) := by
  intro pins s σ H x y v u Q I rx ry h
  obtain ⟨d, ds, hd, he, sd, se, q⟩ := h
  obtain ⟨as, r1⟩ := Dp.reads I d x v hd rx
  obtain ⟨bs, r2⟩ := Dp.reads I (.tuple ds) y u he ry
  exact SeqAt.notIn_tuple_reads r2 r1 (SeqAt.canLay_of_shaped se) (SeqAt.canLay_of_shaped sd) (room_in_shaped sd hu) ⟨.bl _, H, I, rfl, q⟩
def inD (d : D) : D → Option Bool
  | .list ds => if SeqAt.shaped d = true ∧ SeqAt.shaped (.list ds) = true then some (ds.any fun z => PyData.eqv z d) else none
  | .tuple ds => if SeqAt.shaped d = true ∧ SeqAt.shaped (.tuple ds) = true then some (ds.any fun z => PyData.eqv z d) else none
  | .str z => match d with
    | .str i => match i.cps.toList with
      | [c] => some (decide (c ∈ z.cps.toList))
      | _ => some (!(Builtin.Str.occurrences z i 0 z.length 1).isEmpty)
    | _ => none
  | _ => none
theorem one_sign {i : Str} {c : Nat} (h : i.cps.toList = [c]) : i = ⟨#[c]⟩ := by
  obtain ⟨a⟩ := i
  have : a = #[c] := by rw [← Array.toList_inj]; exact h
  rw [this]
def opIn (d e : D) : Option D := match inD d e with
  | some b => some (.bool b)
  | none => none
def opNotIn (d e : D) : Option D := match inD d e with
  | some b => some (.bool (!b))
  | none => none
theorem od_in (hu : X.A.units + 65 < cLine) : OD X (compareOp .In) opIn := by
  refine ⟨_, (op_inD hu).or ((op_inT hu).or (op_in_str.or op_in_sign)), fun G P ρ σ F H x y d e z Q r hx hy hg k => ?_⟩
  unfold opIn inD at hg
  cases e with
  | list ds =>
    simp only at hg
    split at hg
    · rename_i b q
      cases hg
      split at q
      · rename_i hc
        cases q
        exact .inl ⟨d, ds, (hx.dq r.fh).dp (SeqAt.canLay_of_shaped hc.1), (hy.dq r.fh).dp (SeqAt.canLay_of_shaped hc.2), hc.1, hc.2, k _ F H (Same.refl _) r (.bl _)⟩
      · cases q
    · cases hg
  | tuple ds =>
    simp only at hg
    split at hg
    · rename_i b q
      cases hg
      split at q
      · rename_i hc
        cases q
        exact .inr (.inl ⟨d, ds, (hx.dq r.fh).dp (SeqAt.canLay_of_shaped hc.1), (hy.dq r.fh).dp (SeqAt.canLay_of_shaped hc.2), hc.1, hc.2, k _ F H (Same.refl _) r (.bl _)⟩)
      · cases q
    · cases hg
  | str w =>
    cases d with
    | str i =>
      simp only at hg
      split at hg
      · rename_i b q
        cases hg
        split at q
        · rename_i c hc
          cases q
          have e := one_sign hc
          subst e
          exact .inr (.inr (.inr ⟨c, w, hx.str, hy.str, k _ F H (Same.refl _) r (.bl _)⟩))
        · cases q
          exact .inr (.inr (.inl ⟨i, w, hx.str, hy.str, k _ F H (Same.refl _) r (.bl _)⟩))
      · cases hg
    | _ => cases hg
  | _ => cases hg
theorem od_notin (hu : X.A.units + 65 < cLine) : OD X (compareOp .NotIn) opNotIn := by
  refine ⟨_, (op_notInD hu).or ((op_notInT hu).or (op_notIn_str.or op_notIn_sign)), fun G P ρ σ F H x y d e z Q r hx hy hg k => ?_⟩
  unfold opNotIn inD at hg
  cases e with
  | list ds =>
    simp only at hg
    split at hg
    · rename_i b q
      cases hg
      split at q
      · rename_i hc
        cases q
        exact .inl ⟨d, ds, (hx.dq r.fh).dp (SeqAt.canLay_of_shaped hc.1), (hy.dq r.fh).dp (SeqAt.canLay_of_shaped hc.2), hc.1, hc.2, k _ F H (Same.refl _) r (.bl _)⟩
      · cases q
    · cases hg
  | tuple ds =>
    simp only at hg
    split at hg
    · rename_i b q
      cases hg
      split at q
      · rename_i hc
        cases q
        exact .inr (.inl ⟨d, ds, (hx.dq r.fh).dp (SeqAt.canLay_of_shaped hc.1), (hy.dq r.fh).dp (SeqAt.canLay_of_shaped hc.2), hc.1, hc.2, k _ F H (Same.refl _) r (.bl _)⟩)
      · cases q
    · cases hg
  | str w =>
    cases d with
    | str i =>
      simp only at hg
      split at hg
      · rename_i b q
        cases hg
        split at q
        · rename_i c hc
          cases q
          have e := one_sign hc
          subst e
          exact .inr (.inr (.inr ⟨c, w, hx.str, hy.str, k _ F H (Same.refl _) r (.bl _)⟩))
        · cases q
          exact .inr (.inr (.inl ⟨i, w, hx.str, hy.str, k _ F H (Same.refl _) r (.bl _)⟩))
      · cases hg
    | _ => cases hg
  | _ => cases hg
end

/-! ### operations whose answer is a fresh object -/
structure OO (X : Cx) (f : Value → Value → Sem Value) (g : D → D → Option Oo) : Prop where
  ex : ∃ r, OpR X f r ∧ ∀ (G : Hp) (P : Nat → Option Addr) (ρ : Fr) (σ : St) (F H : Hp) (x y : V) (d e : D) (z : Oo) (Q : VK), Rp X.K G P ρ σ F H → RdH X.K F H x d → RdH X.K F H y e → g d e = some z →
    (∀ v F' H', Same F F' → Rp X.K G P ρ σ F' H' → RO X.K G σ ρ F' H' z v → Q v H') → r x y H Q
theorem fresh_O {X : Cx} {G : Hp} {P : Nat → Option Addr} {ρ : Fr} {σ : St} {F H : Hp} {ho : HO} {o : Oo} {p : Addr} (r : Rp X.K G P ρ σ F H) (h : RpO X.K F ho o) (hp : H p = none) :
    Same F F ∧ Rp X.K G P ρ σ F (upd H p ho) ∧ RO X.K G σ ρ F (upd H p ho) o (.ref p) := ⟨Same.refl _, r.more hp, p, ho, rfl, upd_same, h, (r.free hp).1, (r.free hp).2, r.notOwn hp⟩
def mBinO (g : D → D → Option Oo) (ma mb : Mo Arg) : Mo Oo := bnd ma fun a => bnd mb fun b => bnd (opnd a) fun x => bnd (opnd b) fun y => lift (g x y)
section
variable {X : Cx} {E : XK} {a b : Expr} {pos : Pos}
theorem do_bin {op : Operator} {g : D → D → Option Oo} {ma mb : Mo Arg} (ho : OO X (binaryOp op) g) (ha : DR X E a ma) (hb : DR X E b mb) : DO X E (.BinOp a op b pos) (mBinO g ma mb) := by
  obtain ⟨r, o, hg⟩ := ho.ex
  obtain ⟨ta, pa, sa⟩ := ha.ex
  obtain ⟨tb, pb, sb⟩ := hb.ex
  refine ⟨_, pe_op o pa pb, fun G P ρ σ F H Q rr k => EOK.bind (t := ta) rr k sa fun x ρ1 v F1 H1 _ r1 hv k1 => EOK.bind (t := tb) r1 k1 sb fun y ρ2 u F2 H2 s2 r2 hu k2 => ?_⟩
  obtain ⟨d, h1, k3⟩ := k2.opnd r2 (hv.mono s2)
  obtain ⟨e, h2, k4⟩ := k3.opnd r2 hu
  obtain ⟨z, e3, k5⟩ := k4.lift
  exact hg G P ρ2 σ F2 H2 v u d e z Q r2 h1 h2 e3 fun w F' H' s r' q => k5 w F' H' s r' q
def opAddL : D → D → Option Oo
  | .list xs, .list ys => if xs.length + ys.length ≤ sizeLine then some (.l (xs ++ ys)) else none
  | _, _ => none
theorem oo_add : OO X (binaryOp .Add) opAddL := by
  refine ⟨_, op_catR, fun G P ρ σ F H x y d e z Q r hx hy hg k => ?_⟩
  unfold opAddL at hg
  split at hg
  · split at hg
    · cases hg
      obtain ⟨a, vs, rfl, h1, h2⟩ := hx.list r.fh
      obtain ⟨b, ws, rfl, h3, h4⟩ := hy.list r.fh
      refine ⟨a, b, vs, ws, rfl, rfl, h1, h3, by rw [h2.length, h4.length]; assumption, fun p hp => ?_⟩
      obtain ⟨q1, q2, q3⟩ := fresh_O (ho := .lst (vs ++ ws)) r (show RpO X.K F (.lst (vs ++ ws)) (.l _) from h2.append h4) hp
      exact k _ _ _ q1 q2 q3
    · cases hg
  · cases hg
end
end DL
end
section
namespace DL
open PySem PySem.Spec L2
open PyProof.Rows hiding St

/-! ### subscripts -/
def ixD : D → D → Option D
  | .tuple xs, .int i => atI xs i
  | .list xs, .int i => atI xs i
  | .dict [(.none, .list xs)], .int i => atI xs i
  | .str z, .int i => if z.length ≤ sizeLine then (match atI z.cps.toList i with
    | some c => some (.str ⟨#[c]⟩)
    | none => none) else none
  | _, _ => none
theorem DqAll.at_ {K : PySem.W.Frag} {F : Hp} {vs : List V} {xs : List D} {i : Int} {x : D} (h : DqAll K F vs xs) (e : atI xs i = some x) : ∃ v, atI vs i = some v ∧ Dq K F v x := by
  unfold atI at e ⊢
  rw [h.length]
  cases q : ixN xs.length i with
  | none => rw [q] at e; cases e
  | some j =>
    rw [q] at e
    exact h.get e
section
variable {X : Cx} {E : XK} {e a b : Expr} {es : List Expr} {pos : Pos}
abbrev mIx (ma mb : Mo Arg) : Mo D := mBin ixD ma mb
theorem de_ix {ma mb : Mo Arg} (ha : DR X E a ma) (hb : DR X E b mb) (hs : PlainIx b := by exact fun _ _ => rfl) : DE X E (.Subscript a b pos) (mIx ma mb) := by
  obtain ⟨ta, pa, sa⟩ := ha.ex
  obtain ⟨tb, pb, sb⟩ := hb.ex
  refine ⟨_, pe_ix (ix_list.or (ix_tup.or ix_str)) pa pb hs, snd_bin (f := fun _ _ => pure .none) (fun G P ρ σ F H x y d e z Q r hx hy hg k => ?_) sa sb⟩
  unfold ixD at hg
  split at hg
  · obtain ⟨a, vs, rfl, h1, h2⟩ := hx.tup
    obtain ⟨v, h3, h4⟩ := h2.at_ hg
    exact .inr (.inl ⟨a, vs, _, v, rfl, hy.int, Same.sqT r.fh h1, h3, k v F H (Same.refl _) r h4⟩)
  · obtain ⟨a, vs, rfl, h1, h2⟩ := hx.list r.fh
    obtain ⟨v, h3, h4⟩ := h2.at_ hg
    exact .inl ⟨a, vs, _, v, rfl, hy.int, .inl h1, h3, k v F H (Same.refl _) r h4⟩
  · obtain ⟨a, ns, rfl, h1, h2⟩ := hx.scr r.fh
    cases h2
    obtain ⟨v, h3, h4⟩ := (DqAll.ofInts (K := X.K) (F := F) ns).at_ hg
    exact .inl ⟨a, _, _, v, rfl, hy.int, h1, h3, k v F H (Same.refl _) r h4⟩
  · split at hg
    · split at hg
      · rename_i c q
        cases hg
        exact .inr (.inr ⟨_, _, c, hx.str, hy.int, by assumption, q, k _ F H (Same.refl _) r (.str _)⟩)
      · cases hg
    · cases hg
  · cases hg

/-! ### slices -/
def RPt : Rel (Option Int) (Option Int) := fun _ _ _ _ _ a b => a = b
structure DP (X : Cx) (E : XK) (e : Option Expr) (m : Mo (Option Int)) : Prop where
  ex : ∃ t, PO X e t ∧ Snd X E RPt m t
theorem dp_none : DP X E none (ret none) := ⟨_, po_none, fun _ _ _ _ _ _ _ r k => k.give r rfl⟩
def mPart (m : Mo D) : Mo (Option Int) := bnd m fun x => match x with | .int i => ret (some i) | _ => fail
theorem dp_some {m : Mo D} (h : DE X E e m) : DP X E (some e) (mPart m) := by
  obtain ⟨t, p, s⟩ := h.ex
  refine ⟨_, po_some p, fun G P ρ σ F H Q r k => EOK.bind (t := t) r k s fun x ρ1 v F1 H1 _ r1 hv k1 => ?_⟩
  cases x with
  | int i => cases hv; exact ⟨i, rfl, k1.give r1 rfl⟩
  | _ => exact k1.elim
def cutL {α : Type} (xs : List α) (lo hi : Option Int) : List α := (xs.drop (HT.sIx xs.length 0 lo)).take (HT.sIx xs.length xs.length hi - HT.sIx xs.length 0 lo)
theorem cutL_cut (vs : List V) (lo hi : Option Int) : cutL vs lo hi = cutV vs lo hi := rfl
theorem DqAll.cut {K : PySem.W.Frag} {F : Hp} {vs : List V} {xs : List D} (h : DqAll K F vs xs) (lo hi : Option Int) : DqAll K F (cutL vs lo hi) (cutL xs lo hi) := by
  unfold cutL
  rw [h.length]
  exact (h.drop _).take _
theorem cutL_whole {α : Type} {xs : List α} {lo hi : Option Int} (h : HT.sIx xs.length 0 lo = 0 ∧ HT.sIx xs.length xs.length hi = xs.length) : cutL xs lo hi = xs := by
  unfold cutL
  rw [h.1, h.2]
  simp
def slcD (d : D) (lo hi : Option Int) : Option D := match d with
  | .str z => if z.length ≤ sizeLine then some (.str (cutS z lo hi)) else none
  | .tuple xs => some (.tuple (cutL xs lo hi))
  | _ => none
def mSl (me : Mo Arg) (ml mh : Mo (Option Int)) : Mo D := bnd me fun a => bnd ml fun lo => bnd mh fun hi => bnd (opnd a) fun x => lift (slcD x lo hi)
theorem de_slice {me : Mo Arg} {ml mh : Mo (Option Int)} {lo hi : Option Expr} {p2 : Pos} (he : DR X E e me) (hl : DP X E lo ml) (hh : DP X E hi mh) : DE X E (.Subscript e (.Slice lo hi none p2) pos) (mSl me ml mh) := by
  obtain ⟨t, p, s⟩ := he.ex
  obtain ⟨tl, pl, sl⟩ := hl.ex
  obtain ⟨th, ph, sh⟩ := hh.ex
  refine ⟨_, pe_slice (sl_str.or sl_tupA) p pl ph, fun G P ρ σ F H Q r k => EOK.bind (t := t) r k s fun x ρ1 v F1 H1 _ r1 hv k1 => EOK.bind (t := tl) r1 k1 sl fun lo ρ2 lo' F2 H2 s2 r2 q2 k2 => EOK.bind (t := th) r2 k2 sh fun hi ρ3 hi' F3 H3 s3 r3 q3 k3 => ?_⟩
  obtain rfl : lo = lo' := q2
  obtain rfl : hi = hi' := q3
  obtain ⟨d, h1, k4⟩ := k3.opnd r3 (hv.mono (s2.trans s3))
  obtain ⟨z, e1, k5⟩ := k4.lift
  unfold slcD at e1
  split at e1
  · split at e1
    · cases e1
      exact .inl ⟨_, h1.str, by assumption, k5 _ F3 H3 (Same.refl _) r3 (.str _)⟩
    · cases e1
  · cases e1
    obtain ⟨a, vs, rfl, h2, h3⟩ := h1.tup
    refine .inr ⟨a, vs, rfl, Same.sqT r3.fh h2, fun q => ?_, fun q p hp => ?_⟩
    · have q' := q
      rw [h3.length] at q'
      rw [cutL_whole q'] at k5
      exact k5 _ F3 H3 (Same.refl _) r3 (.tup h2 h3)
    · have s := same_upd (F := F3) (o := .tup (cutV vs lo hi)) (r3.free hp).1
      exact k5 _ _ _ s (r3.grow hp) (.tup (.inl (.inl upd_same)) ((h3.mono s).cut lo hi))
  · cases e1
def slcL (d : D) (lo hi : Option Int) : Option Oo := match d with
  | .list xs => some (.l (cutL xs lo hi))
  | _ => none
def mSlL (me : Mo Arg) (ml mh : Mo (Option Int)) : Mo Oo := bnd me fun a => bnd ml fun lo => bnd mh fun hi => bnd (opnd a) fun x => lift (slcL x lo hi)
theorem do_slice {me : Mo Arg} {ml mh : Mo (Option Int)} {lo hi : Option Expr} {p2 : Pos} (he : DR X E e me) (hl : DP X E lo ml) (hh : DP X E hi mh) : DO X E (.Subscript e (.Slice lo hi none p2) pos) (mSlL me ml mh) := by
  obtain ⟨t, p, s⟩ := he.ex
  obtain ⟨tl, pl, sl⟩ := hl.ex
  obtain ⟨th, ph, sh⟩ := hh.ex
  refine ⟨_, pe_slice sl_list p pl ph, fun G P ρ σ F H Q r k => EOK.bind (t := t) r k s fun x ρ1 v F1 H1 _ r1 hv k1 => EOK.bind (t := tl) r1 k1 sl fun lo ρ2 lo' F2 H2 s2 r2 q2 k2 => EOK.bind (t := th) r2 k2 sh fun hi ρ3 hi' F3 H3 s3 r3 q3 k3 => ?_⟩
  obtain rfl : lo = lo' := q2
  obtain rfl : hi = hi' := q3
  obtain ⟨d, h1, k4⟩ := k3.opnd r3 (hv.mono (s2.trans s3))
  obtain ⟨z, e1, k5⟩ := k4.lift
  unfold slcL at e1
  split at e1
  · cases e1
    obtain ⟨a, vs, rfl, h2, h3⟩ := h1.list r3.fh
    refine ⟨a, vs, rfl, .inl h2, fun p hp => ?_⟩
    obtain ⟨q1, q2, q3⟩ := fresh_O (ho := .lst (cutV vs lo hi)) r3 (show RpO X.K F3 (.lst (cutV vs lo hi)) (.l _) from h3.cut lo hi) hp
    exact k5 _ _ _ q1 q2 q3
  · cases e1
/-- xs[::-1] -/
def mRev (me : Mo Arg) : Mo Oo := bnd me fun a => bnd (opnd a) fun x => match x with | .list xs => ret (.l xs.reverse) | _ => fail
theorem do_rev {me : Mo Arg} {k : Nat} {p1 p2 p3 : Pos} (he : DR X E e me) : DO X E (.Subscript e (.Slice none none (some (.UnaryOp .USub (.Constant (.int 1) k p1) p2)) p3) pos) (mRev me) := by
  obtain ⟨t, p, s⟩ := he.ex
  refine ⟨_, pe_revL p, fun G P ρ σ F H Q r k => EOK.bind (t := t) r k s fun x ρ1 v F1 H1 _ r1 hv k1 => ?_⟩
  obtain ⟨d, h1, k2⟩ := k1.opnd r1 hv
  cases d with
  | list xs =>
    obtain ⟨a, vs, rfl, h2, h3⟩ := h1.list r1.fh
    refine ⟨a, vs, rfl, .inl h2, fun p hp => ?_⟩
    obtain ⟨q1, q2, q3⟩ := fresh_O (ho := .lst vs.reverse) r1 (show RpO X.K F1 (.lst vs.reverse) (.l _) from h3.reverse) hp
    exact k2 _ _ _ q1 q2 q3
  | _ => exact k2.elim

/-! ### -x -/
def opNeg : D → Option D
  | .int i => some (.int (-i))
  | _ => none
def mNeg (ma : Mo Arg) : Mo D := bnd ma fun a => bnd (opnd a) fun x => lift (opNeg x)
theorem de_neg {ma : Mo Arg} (ha : DR X E a ma) : DE X E (.UnaryOp .USub a pos) (mNeg ma) := by
  obtain ⟨t, p, s⟩ := ha.ex
  refine ⟨_, pe_un un_neg p, fun G P ρ σ F H Q r k => EOK.bind (t := t) r k s fun x ρ1 v F1 H1 _ r1 hv k1 => ?_⟩
  obtain ⟨d, h1, k2⟩ := k1.opnd r1 hv
  obtain ⟨z, e1, k3⟩ := k2.lift
  unfold opNeg at e1
  split at e1
  · cases e1
    exact ⟨_, h1.int, k3 _ F1 H1 (Same.refl _) r1 (.int _)⟩
  · cases e1

/-! ### built-ins -/
inductive RdHs (K : PySem.W.Frag) (F H : Hp) : List V → List D → Prop where
  | nil : RdHs K F H [] []
  | cons {v : V} {x : D} {vs : List V} {xs : List D} : RdH K F H v x → RdHs K F H vs xs → RdHs K F H (v :: vs) (x :: xs)
def rsvs (ρ : Fr) : List Arg → Option (List D)
  | [] => some []
  | a :: r => match rsv ρ a with
    | some x => match rsvs ρ r with
      | some l => some (x :: l)
      | none => none
    | none => none
def opnds (as : List Arg) : Mo (List D) := fun ρ => match rsvs ρ as with
  | some x => some (.ok x ρ)
  | none => none
theorem rsvs_ok {K : PySem.W.Frag} {G F H : Hp} {P : Nat → Option Addr} {σ : St} {ρ : Fr} (r : Rp K G P ρ σ F H) : ∀ {as : List Arg} {vs : List V} {xs : List D}, RAs K G σ ρ F H as vs → rsvs ρ as = some xs → RdHs K F H vs xs
  | [], [], _, _, e => by cases e; exact .nil
  | [], _ :: _, _, h, _ => by have := h.1; simp at this
  | _ :: _, [], _, h, _ => by have := h.1; simp at this
  | a :: as, v :: vs, xs, h, e => by
    unfold rsvs at e
    cases q : rsv ρ a with
    | none => rw [q] at e; cases e
    | some x =>
      cases q2 : rsvs ρ as with
      | none => simp only [q, q2] at e; cases e
      | some l =>
        simp only [q, q2] at e
        cases e
        exact .cons (rsv_ok r (h.2 0 _ _ rfl rfl) q) (rsvs_ok r (as := as) ⟨by have := h.1; simpa using this, fun i a u e1 e2 => h.2 (i + 1) a u (by simpa using e1) (by simpa using e2)⟩ q2)
structure CD (X : Cx) (f : Value) (g : List D → Option D) : Prop where
  ex : ∃ r, CallR X f r ∧ ∀ (G : Hp) (P : Nat → Option Addr) (ρ : Fr) (σ : St) (F H : Hp) (vs : List V) (ds : List D) (z : D) (Q : VK), Rp X.K G P ρ σ F H → RdHs X.K F H vs ds → g ds = some z →
    (∀ v F' H', Same F F' → Rp X.K G P ρ σ F' H' → Dq X.K F' v z → Q v H') → r vs H Q
structure CO (X : Cx) (f : Value) (g : List D → Option Oo) : Prop where
  ex : ∃ r, CallR X f r ∧ ∀ (G : Hp) (P : Nat → Option Addr) (ρ : Fr) (σ : St) (F H : Hp) (vs : List V) (ds : List D) (z : Oo) (Q : VK), Rp X.K G P ρ σ F H → RdHs X.K F H vs ds → g ds = some z →
    (∀ v F' H', Same F F' → Rp X.K G P ρ σ F' H' → RO X.K G σ ρ F' H' z v → Q v H') → r vs H Q
def mB1 (g : List D → Option D) (ms : Mo (List Arg)) : Mo D := bnd ms fun as => bnd (opnds as) fun xs => lift (g xs)
def mBO (g : List D → Option Oo) (ms : Mo (List Arg)) : Mo Oo := bnd ms fun as => bnd (opnds as) fun xs => lift (g xs)
theorem EOK.opnds {α β : Type} {R : Rel α β} {G : Hp} {P : Nat → Option Addr} {σ : St} {F H : Hp} {Q : β → Hp → Prop} {ρ : Fr} {as : List Arg} {vs : List V} {k : List D → Mo α} (r : Rp X.K G P ρ σ F H) (hv : RAs X.K G σ ρ F H as vs)
    (h : EOK X E R G P σ F Q (bnd (opnds as) k ρ)) : ∃ ds, RdHs X.K F H vs ds ∧ EOK X E R G P σ F Q (k ds ρ) := by
  unfold bnd DL.opnds at h
  match q : rsvs ρ as, h with
  | some d, h => exact ⟨d, rsvs_ok r hv q, h⟩
  | none, h => exact h.elim
section
variable {x : Str} {p : Pos} {id T : String}
theorem de_callB {g : List D → Option D} {ms : Mo (List Arg)} (hc : CD X (.builtin id) g) (hg : Gl X x) (hm : X.mg x = none) (hv : bootBuiltins x = some (.builtin id)) (ha : DA X E (e :: es) ms) (hn : x ≠ "__name__" := by decide) (hdb : (x == ("__debug__" : Str)) = false := by decide)
    (he : starEach (e :: es) X.env = (false, eval e X.env) :: starEach es X.env := by rfl) (hpl : (backTo pos (starEach es X.env)).any (·.1) = false := by rfl) : DE X E (.Call (.Name x p) (e :: es) [] pos) (mB1 g ms) := by
  obtain ⟨t, pt, s⟩ := ha.ex
  obtain ⟨r, c, hr⟩ := hc.ex
  refine ⟨_, pe_callB c hg hm hv pt hn hdb he hpl, fun G P ρ σ F H Q rr k => EOK.bind (t := t) rr k s fun as ρ1 vs F1 H1 _ r1 hv k1 => ?_⟩
  obtain ⟨ds, h1, k2⟩ := k1.opnds r1 hv
  obtain ⟨z, e1, k3⟩ := k2.lift
  exact hr G P ρ1 σ F1 H1 vs ds z Q r1 h1 e1 fun w F' H' s r' q => k3 w F' H' s r' q
theorem de_callTy {g : List D → Option D} {ms : Mo (List Arg)} (hc : CD X (.type T) g) (hg : Gl X x) (hm : X.mg x = none) (hv : bootBuiltins x = some (.type T)) (ha : DA X E (e :: es) ms) (hn : x ≠ "__name__" := by decide) (hdb : (x == ("__debug__" : Str)) = false := by decide)
    (he : starEach (e :: es) X.env = (false, eval e X.env) :: starEach es X.env := by rfl) (hpl : (backTo pos (starEach es X.env)).any (·.1) = false := by rfl) : DE X E (.Call (.Name x p) (e :: es) [] pos) (mB1 g ms) := by
  obtain ⟨t, pt, s⟩ := ha.ex
  obtain ⟨r, c, hr⟩ := hc.ex
  refine ⟨_, pe_callTy c hg hm hv pt hn hdb he hpl, fun G P ρ σ F H Q rr k => EOK.bind (t := t) rr k s fun as ρ1 vs F1 H1 _ r1 hv k1 => ?_⟩
  obtain ⟨ds, h1, k2⟩ := k1.opnds r1 hv
  obtain ⟨z, e1, k3⟩ := k2.lift
  exact hr G P ρ1 σ F1 H1 vs ds z Q r1 h1 e1 fun w F' H' s r' q => k3 w F' H' s r' q
theorem do_callB {g : List D → Option Oo} {ms : Mo (List Arg)} (hc : CO X (.builtin id) g) (hg : Gl X x) (hm : X.mg x = none) (hv : bootBuiltins x = some (.builtin id)) (ha : DA X E (e :: es) ms) (hn : x ≠ "__name__" := by decide) (hdb : (x == ("__debug__" : Str)) = false := by decide)
    (he : starEach (e :: es) X.env = (false, eval e X.env) :: starEach es X.env := by rfl) (hpl : (backTo pos (starEach es X.env)).any (·.1) = false := by rfl) : DO X E (.Call (.Name x p) (e :: es) [] pos) (mBO g ms) := by
  obtain ⟨t, pt, s⟩ := ha.ex
  obtain ⟨r, c, hr⟩ := hc.ex
  refine ⟨_, pe_callB c hg hm hv pt hn hdb he hpl, fun G P ρ σ F H Q rr k => EOK.bind (t := t) rr k s fun as ρ1 vs F1 H1 _ r1 hv k1 => ?_⟩
  obtain ⟨ds, h1, k2⟩ := k1.opnds r1 hv
  obtain ⟨z, e1, k3⟩ := k2.lift
  exact hr G P ρ1 σ F1 H1 vs ds z Q r1 h1 e1 fun w F' H' s r' q => k3 w F' H' s r' q
theorem do_callTy {g : List D → Option Oo} {ms : Mo (List Arg)} (hc : CO X (.type T) g) (hg : Gl X x) (hm : X.mg x = none) (hv : bootBuiltins x = some (.type T)) (ha : DA X E (e :: es) ms) (hn : x ≠ "__name__" := by decide) (hdb : (x == ("__debug__" : Str)) = false := by decide)
    (he : starEach (e :: es) X.env = (false, eval e X.env) :: starEach es X.env := by rfl) (hpl : (backTo pos (starEach es X.env)).any (·.1) = false := by rfl) : DO X E (.Call (.Name x p) (e :: es) [] pos) (mBO g ms) := by
  obtain ⟨t, pt, s⟩ := ha.ex
  obtain ⟨r, c, hr⟩ := hc.ex
  refine ⟨_, pe_callTy c hg hm hv pt hn hdb he hpl, fun G P ρ σ F H Q rr k => EOK.bind (t := t) rr k s fun as ρ1 vs F1 H1 _ r1 hv k1 => ?_⟩
  obtain ⟨ds, h1, k2⟩ := k1.opnds r1 hv
  obtain ⟨z, e1, k3⟩ := k2.lift
  exact hr G P ρ1 σ F1 H1 vs ds z Q r1 h1 e1 fun w F' H' s r' q => k3 w F' H' s r' q
end
/-! ### what they do -/
def bAbs : List D → Option D
  | [.int i] => some (.int (if i < 0 then -i else i))
  | _ => none
theorem RdHs.one {K : PySem.W.Frag} {F H : Hp} {vs : List V} {x : D} (h : RdHs K F H vs [x]) : ∃ v, vs = [v] ∧ RdH K F H v x := by
  cases h with
  | cons a b => cases b; exact ⟨_, rfl, a⟩
theorem RdHs.two {K : PySem.W.Frag} {F H : Hp} {vs : List V} {x y : D} (h : RdHs K F H vs [x, y]) : ∃ v w, vs = [v, w] ∧ RdH K F H v x ∧ RdH K F H w y := by
  cases h with
  | cons a b =>
    obtain ⟨w, rfl, c⟩ := b.one
    exact ⟨_, _, rfl, a, c⟩
theorem cd_abs : CD X (.builtin "abs") bAbs := by
  refine ⟨_, call_abs, fun G P ρ σ F H vs ds z Q r h hg k => ?_⟩
  unfold bAbs at hg
  split at hg
  · cases hg
    obtain ⟨v, rfl, q⟩ := h.one
    rw [q.int]
    exact ⟨_, rfl, k _ F H (Same.refl _) r (.int _)⟩
  · cases hg
def bMax : List D → Option D
  | [.int i, .int j] => some (.int (if j > i then j else i))
  | _ => none
def bMin : List D → Option D
  | [.int i, .int j] => some (.int (if j < i then j else i))
  | _ => none
theorem cd_max (hc : X.calm = true) : CD X (.builtin "max") bMax := by
  refine ⟨_, call_max2 hc, fun G P ρ σ F H vs ds z Q r h hg k => ?_⟩
  unfold bMax at hg
  split at hg
  · cases hg
    obtain ⟨v, w, rfl, q, q'⟩ := h.two
    rw [q.int, q'.int]
    exact ⟨_, _, rfl, k _ F H (Same.refl _) r (.int _)⟩
  · cases hg
theorem cd_min (hc : X.calm = true) : CD X (.builtin "min") bMin := by
  refine ⟨_, call_min2 hc, fun G P ρ σ F H vs ds z Q r h hg k => ?_⟩
  unfold bMin at hg
  split at hg
  · cases hg
    obtain ⟨v, w, rfl, q, q'⟩ := h.two
    rw [q.int, q'.int]
    exact ⟨_, _, rfl, k _ F H (Same.refl _) r (.int _)⟩
  · cases hg
def bInt : List D → Option D
  | [.int i] => some (.int i)
  | [.bool b] => some (.int (if b then 1 else 0))
  | [.str z] => match PySem.intText? z with
    | some n => if z.length ≤ 640 then some (.int n) else none
    | none => none
  | _ => none
theorem CallR.or {f : Value} {r r' : List V → Hp → VK → Prop} (h : CallR X f r) (h' : CallR X f r') : CallR X f (fun x H Q => r x H Q ∨ r' x H Q) := by
  intro pins s σ H xs us Q I rx q
  rcases q with q | q
  · exact h pins s σ H xs us Q I rx q
  · exact h' pins s σ H xs us Q I rx q
theorem cd_int : CD X (.type "int") bInt := by
  refine ⟨_, CallR.or call_int1 call_int_str, fun G P ρ σ F H vs ds z Q r h hg k => ?_⟩
  unfold bInt at hg
  split at hg
  · cases hg
    obtain ⟨v, rfl, q⟩ := h.one
    rw [q.int]
    exact .inl (.inl ⟨_, rfl, k _ F H (Same.refl _) r (.int _)⟩)
  · cases hg
    obtain ⟨v, rfl, q⟩ := h.one
    rw [q.bool]
    exact .inl (.inr ⟨_, rfl, k _ F H (Same.refl _) r (.int _)⟩)
  · split at hg
    · split at hg
      · cases hg
        obtain ⟨v, rfl, q⟩ := h.one
        rw [q.str]
        exact .inr ⟨_, _, rfl, by assumption, by assumption, k _ F H (Same.refl _) r (.int _)⟩
      · cases hg
    · cases hg
  · cases hg
def bStr : List D → Option D
  | [.int i] => if i.natAbs.log2 < 1920 then some (.str (toString i)) else none
  | _ => none
theorem cd_str : CD X (.type "str") bStr := by
  refine ⟨_, call_str_int, fun G P ρ σ F H vs ds z Q r h hg k => ?_⟩
  unfold bStr at hg
  split at hg
  · split at hg
    · cases hg
      obtain ⟨v, rfl, q⟩ := h.one
      rw [q.int]
      exact ⟨_, rfl, by assumption, k _ F H (Same.refl _) r (.str _)⟩
    · cases hg
  · cases hg
def bLen : List D → Option D
  | [.list xs] => some (.int xs.length)
  | [.tuple xs] => some (.int xs.length)
  | [.dict [(.none, .list xs)]] => some (.int xs.length)
  | [.str z] => if z.length ≤ sizeLine then some (.int z.length) else none
  | _ => none
theorem cd_len : CD X (.builtin "len") bLen := by
  refine ⟨_, CallR.or call_len_seq call_len_str, fun G P ρ σ F H vs ds z Q r h hg k => ?_⟩
  unfold bLen at hg
  split at hg
  · cases hg
    obtain ⟨v, rfl, q⟩ := h.one
    obtain ⟨a, ws, rfl, h1, h2⟩ := q.list r.fh
    refine .inl ⟨a, ws, rfl, .inl (.inl h1), ?_⟩
    rw [h2.length]
    exact k _ F H (Same.refl _) r (.int _)
  · cases hg
    obtain ⟨v, rfl, q⟩ := h.one
    obtain ⟨a, ws, rfl, h1, h2⟩ := q.tup
    refine .inl ⟨a, ws, rfl, .inr (Same.sqT r.fh h1), ?_⟩
    rw [h2.length]
    exact k _ F H (Same.refl _) r (.int _)
  · cases hg
    obtain ⟨v, rfl, q⟩ := h.one
    obtain ⟨a, ns, rfl, h1, h2⟩ := q.scr r.fh
    cases h2
    refine .inl ⟨a, _, rfl, .inl h1, ?_⟩
    have e : (ns.map V.int).length = (ns.map PyData.int).length := by simp
    rw [e]
    exact k _ F H (Same.refl _) r (.int _)
  · split at hg
    · cases hg
      obtain ⟨v, rfl, q⟩ := h.one
      rw [q.str]
      exact .inr ⟨_, rfl, by assumption, k _ F H (Same.refl _) r (.int _)⟩
    · cases hg
  · cases hg
def intsOf : List D → Option (List Int)
  | [] => some []
  | .int i :: r => match intsOf r with
    | some l => some (i :: l)
    | none => none
  | _ :: _ => none
def boolsOf : List D → Option (List Bool)
  | [] => some []
  | .bool i :: r => match boolsOf r with
    | some l => some (i :: l)
    | none => none
  | _ :: _ => none
theorem intsOf_eq : ∀ {xs : List D} {ns : List Int}, intsOf xs = some ns → xs = ns.map .int
  | [], _, h => by cases h; rfl
  | .int i :: r, ns, h => by
    unfold intsOf at h
    cases q : intsOf r with
    | none => rw [q] at h; cases h
    | some l => rw [q] at h; cases h; rw [intsOf_eq q]; rfl
  | .none :: _, _, h => by cases h
  | .bool _ :: _, _, h => by cases h
  | .str _ :: _, _, h => by cases h
  | .list _ :: _, _, h => by cases h
  | .tuple _ :: _, _, h => by cases h
  | .dict _ :: _, _, h => by cases h
theorem boolsOf_eq : ∀ {xs : List D} {ns : List Bool}, boolsOf xs = some ns → xs = ns.map .bool
  | [], _, h => by cases h; rfl
  | .bool i :: r, ns, h => by
    unfold boolsOf at h
    cases q : boolsOf r with
    | none => rw [q] at h; cases h
    | some l => rw [q] at h; cases h; rw [boolsOf_eq q]; rfl
  | .none :: _, _, h => by cases h
  | .int _ :: _, _, h => by cases h
  | .str _ :: _, _, h => by cases h
  | .list _ :: _, _, h => by cases h
  | .tuple _ :: _, _, h => by cases h
  | .dict _ :: _, _, h => by cases h
def bSum : List D → Option D
  | [.list xs] => match intsOf xs with
    | some ns => some (.int ns.sum)
    | none => none
  | _ => none
theorem cd_sum (hc : X.calm = true) : CD X (.builtin "sum") bSum := by
  refine ⟨_, cr_sum hc, fun G P ρ σ F H vs ds z Q r h hg k => ?_⟩
  unfold bSum at hg
  split at hg
  · split at hg
    · rename_i q0
      cases hg
      obtain ⟨v, rfl, q⟩ := h.one
      obtain ⟨a, ws, rfl, h1, h2⟩ := q.list r.fh
      rw [intsOf_eq q0] at h2
      rw [h2.ints] at h1
      exact ⟨a, _, rfl, .inl h1, k _ F H (Same.refl _) r (.int _)⟩
    · cases hg
  · cases hg
def bAll : List D → Option D
  | [.list xs] => match boolsOf xs with
    | some ns => some (.bool (ns.all id))
    | none => none
  | _ => none
def bAny : List D → Option D
  | [.list xs] => match boolsOf xs with
    | some ns => some (.bool (ns.any id))
    | none => none
  | _ => none
theorem cd_all (hc : X.calm = true) : CD X (.builtin "all") bAll := by
  refine ⟨_, cr_all hc, fun G P ρ σ F H vs ds z Q r h hg k => ?_⟩
  unfold bAll at hg
  split at hg
  · split at hg
    · rename_i q0
      cases hg
      obtain ⟨v, rfl, q⟩ := h.one
      obtain ⟨a, ws, rfl, h1, h2⟩ := q.list r.fh
      rw [boolsOf_eq q0] at h2
      rw [h2.bools] at h1
      exact ⟨a, _, rfl, .inl h1, k _ F H (Same.refl _) r (.bl _)⟩
    · cases hg
  · cases hg
theorem cd_any (hc : X.calm = true) : CD X (.builtin "any") bAny := by
  refine ⟨_, cr_any hc, fun G P ρ σ F H vs ds z Q r h hg k => ?_⟩
  unfold bAny at hg
  split at hg
  · split at hg
    · rename_i q0
      cases hg
      obtain ⟨v, rfl, q⟩ := h.one
      obtain ⟨a, ws, rfl, h1, h2⟩ := q.list r.fh
      rw [boolsOf_eq q0] at h2
      rw [h2.bools] at h1
      exact ⟨a, _, rfl, .inl h1, k _ F H (Same.refl _) r (.bl _)⟩
    · cases hg
  · cases hg
def bTuple : List D → Option D
  | [.list xs] => some (.tuple xs)
  | [.tuple xs] => some (.tuple xs)
  | _ => none
theorem cd_tuple : CD X (.type "tuple") bTuple := by
  refine ⟨_, call_tuple_of, fun G P ρ σ F H vs ds z Q r h hg k => ?_⟩
  unfold bTuple at hg
  split at hg
  · cases hg
    obtain ⟨v, rfl, q⟩ := h.one
    obtain ⟨a, ws, rfl, h1, h2⟩ := q.list r.fh
    refine ⟨a, ws, rfl, .inl ⟨.inl h1, fun p hp => ?_⟩⟩
    have s := same_upd (F := F) (o := .tup ws) (r.free hp).1
    exact k _ _ _ s (r.grow hp) (.tup (.inl (.inl upd_same)) (h2.mono s))
  · cases hg
    obtain ⟨v, rfl, q⟩ := h.one
    obtain ⟨a, ws, rfl, h1, h2⟩ := q.tup
    exact ⟨a, ws, rfl, .inr ⟨Same.sqT r.fh h1, k _ F H (Same.refl _) r (.tup h1 h2)⟩⟩
  · cases hg
def bList : List D → Option Oo
  | [.list xs] => some (.l xs)
  | [.tuple xs] => some (.l xs)
  | _ => none
theorem co_list : CO X (.type "list") bList := by
  refine ⟨_, call_list_of, fun G P ρ σ F H vs ds z Q r h hg k => ?_⟩
  unfold bList at hg
  split at hg
  · cases hg
    obtain ⟨v, rfl, q⟩ := h.one
    obtain ⟨a, ws, rfl, h1, h2⟩ := q.list r.fh
    refine ⟨a, ws, rfl, .inl (.inl h1), fun p hp => ?_⟩
    obtain ⟨q1, q2, q3⟩ := fresh_O (ho := .lst ws) r (show RpO X.K F (.lst ws) (.l _) from h2) hp
    exact k _ _ _ q1 q2 q3
  · cases hg
    obtain ⟨v, rfl, q⟩ := h.one
    obtain ⟨a, ws, rfl, h1, h2⟩ := q.tup
    refine ⟨a, ws, rfl, .inr (Same.sqT r.fh h1), fun p hp => ?_⟩
    obtain ⟨q1, q2, q3⟩ := fresh_O (ho := .lst ws) r (show RpO X.K F (.lst ws) (.l _) from h2) hp
    exact k _ _ _ q1 q2 q3
  · cases hg
/-! ### isinstance -/
def tyN : D → String
  | .none => "NoneType"
  | .bool _ => "bool"
  | .int _ => "int"
  | .str _ => "str"
  | .list _ => "list"
  | .tuple _ => "tuple"
  | .dict _ => "dict"
def isI (T : String) (x : D) : Bool := tyN x == T || (T == "int" && tyN x == "bool")
def mIsI (T : String) (m : Mo Arg) : Mo D := bnd m fun a => bnd (opnd a) fun x => lift (match x with
  | .dict _ => none
  | x => some (.bool (isI T x)))
theorem RdH.ty {K : PySem.W.Frag} {F H : Hp} {v : V} {x : D} (h : RdH K F H v x) (s : Same F H) (hd : ∀ l, x ≠ .dict l) : TyX K H v (.type (tyN x)) := by
  rcases h with h | ⟨p, vs, ys, rfl, rfl, q, a⟩
  · cases h with
    | non => exact .base .non
    | bl b => exact .base (.bl b)
    | int i => exact .base (.int i)
    | str z => exact .base (.str z)
    | lst r a =>
      rcases Same.rd s r with e | ⟨o, e⟩
      · exact .base (.lst e)
      · exact .base (.frz e)
    | tup r a =>
      rcases Same.sqT s r with (e | ⟨o, e⟩) | ⟨o, its, n, e, c, _⟩
      · exact .base (.tup e)
      · exact .fTuple e
      · exact .kTuple e c
    | scr _ => exact absurd rfl (hd _)
  · exact .base (.lst q)
theorem de_isi {m : Mo Arg} {p p2 : Pos} {T : String} {Tn : Str} (hk : ∀ x : D, (∀ l, x ≠ .dict l) → PySem.W.kitOne X.K (.type (tyN x)) (.type T) = some (isI T x)) (hg : Gl X "isinstance") (hm : X.mg "isinstance" = none) (hg' : Gl X Tn) (hm' : X.mg Tn = none) (hv' : bootBuiltins Tn = some (.type T))
    (ha : DR X E e m) (hn' : Tn ≠ "__name__" := by decide) (hd' : (Tn == ("__debug__" : Str)) = false := by decide) (he : starEach [e, .Name Tn p2] X.env = (false, eval e X.env) :: starEach [.Name Tn p2] X.env := by rfl) : DE X E (.Call (.Name "isinstance" p) [e, .Name Tn p2] [] pos) (mIsI T m) := by
  obtain ⟨t, pt, s⟩ := ha.ex
  have hb : PE X (.Name Tn p2) (tC (.ty T)) := pe_bltn hg' hm' hv' rfl hn' hd'
  refine ⟨_, pe_callB call_isi hg hm (by decide +kernel) (pa_cons pt (pa_cons hb pa_nil) he) (he := he), fun G P ρ σ F H Q rr k => EOK.bind (t := t) rr k s fun a ρ1 v F1 H1 _ r1 hv k1 => ?_⟩
  obtain ⟨d, h1, k2⟩ := k1.opnd r1 hv
  obtain ⟨z, e1, k3⟩ := k2.lift
  have hd : ∀ l, d ≠ .dict l := fun l q => by subst q; cases e1
  have e2 : z = .bool (isI T d) := by
    cases d with
    | dict l => exact absurd rfl (hd l)
    | _ => cases e1; rfl
  subst e2
  exact ⟨v, .ty T, _, _, _, rfl, .ty T, h1.ty r1.fh hd, hk d hd, k3 _ F1 H1 (Same.refl _) r1 (.bl _)⟩
theorem kit_int {K : PySem.W.Frag} (x : D) (h : ∀ l, x ≠ .dict l) : PySem.W.kitOne K (.type (tyN x)) (.type "int") = some (isI "int" x) := by
  cases x with
  | dict l => exact absurd rfl (h l)
  | _ => with_unfolding_all rfl
theorem kit_bool {K : PySem.W.Frag} (x : D) (h : ∀ l, x ≠ .dict l) : PySem.W.kitOne K (.type (tyN x)) (.type "bool") = some (isI "bool" x) := by
  cases x with
  | dict l => exact absurd rfl (h l)
  | _ => with_unfolding_all rfl
theorem kit_str {K : PySem.W.Frag} (x : D) (h : ∀ l, x ≠ .dict l) : PySem.W.kitOne K (.type (tyN x)) (.type "str") = some (isI "str" x) := by
  cases x with
  | dict l => exact absurd rfl (h l)
  | _ => with_unfolding_all rfl
theorem kit_list {K : PySem.W.Frag} (x : D) (h : ∀ l, x ≠ .dict l) : PySem.W.kitOne K (.type (tyN x)) (.type "list") = some (isI "list" x) := by
  cases x with
  | dict l => exact absurd rfl (h l)
  | _ => with_unfolding_all rfl
theorem kit_tuple {K : PySem.W.Frag} (x : D) (h : ∀ l, x ≠ .dict l) : PySem.W.kitOne K (.type (tyN x)) (.type "tuple") = some (isI "tuple" x) := by
  cases x with
  | dict l => exact absurd rfl (h l)
  | _ => with_unfolding_all rfl
end
end DL
end
section
namespace DL
open PySem PySem.Spec L2
open PyProof.Rows hiding St

/-! ### targets -/
def Agree (S : List Nat) (σ σ' : St) : Prop := σ'.length = σ.length ∧ ∀ j : Nat, j ∉ S → σ'[j]? = σ[j]?
theorem Agree.refl (S : List Nat) (σ : St) : Agree S σ σ := ⟨rfl, fun _ _ => rfl⟩
theorem Agree.trans {S : List Nat} {a b c : St} (h : Agree S a b) (k : Agree S b c) : Agree S a c := ⟨k.1.trans h.1, fun j hj => (k.2 j hj).trans (h.2 j hj)⟩
theorem Agree.mono {S T : List Nat} {a b : St} (h : Agree S a b) (k : ∀ j ∈ S, j ∈ T) : Agree T a b := ⟨h.1, fun j hj => h.2 j fun q => hj (k j q)⟩
def GOK (K : PySem.W.Frag) (S : List Nat) (G : Hp) (P : Nat → Option Addr) (σ : St) (F H : Hp) (Q : St → Hp → Prop) : Option (Out Unit) → Prop
  | some (.ok () ρ') => ∀ σ', Agree S σ σ' → Rp K G P ρ' σ' F H → Q σ' H
  | _ => False
structure DG (X : Cx) (tg : Expr) (S : List Nat) (g : D → Mo Unit) : Prop where
  ex : ∃ t, PG X tg t ∧ ∀ (G : Hp) (P : Nat → Option Addr) (ρ : Fr) (σ : St) (F H : Hp) (v : V) (x : D) (Q : St → Hp → Prop), Rp X.K G P ρ σ F H → Dq X.K F v x → GOK X.K S G P σ F H Q (g x ρ) → t v σ H Q
def gN (i : Nat) (x : D) : Mo Unit := fun ρ => match ρ[i]? with
  | some (.own true _) => none
  | some _ => some (.ok () (ρ.set i (.d x)))
  | none => none
def tgtS (gs : List (D → Mo Unit)) (xs : List D) : Mo Unit := match gs, xs with
  | [], [] => ret ()
  | g :: gs, x :: xs => bnd (g x) fun _ => tgtS gs xs
  | _, _ => fail
def gT (gs : List (D → Mo Unit)) (x : D) : Mo Unit := match x with
  | .tuple xs => tgtS gs xs
  | .list xs => tgtS gs xs
  | _ => fail
theorem pg_or {X : Cx} {tg : Expr} {t u : TG} (h : PG X tg t) (k : PG X tg u) : PG X tg (fun v σ H Q => t v σ H Q ∨ u v σ H Q) := ⟨fun pins s σ H v w Q I r q => q.elim (h.run pins s σ H v w Q I r) (k.run pins s σ H v w Q I r)⟩
structure DGs (X : Cx) (ts : List Expr) (S : List Nat) (gs : List (D → Mo Unit)) : Prop where
  ex : ∃ t, PGs X ts t ∧ ∀ (G : Hp) (P : Nat → Option Addr) (ρ : Fr) (σ : St) (F H : Hp) (vs : List V) (xs : List D) (Q : St → Hp → Prop), Rp X.K G P ρ σ F H → DqAll X.K F vs xs → GOK X.K S G P σ F H Q (tgtS gs xs ρ) → t vs σ H Q
  len : ts.length = gs.length
section
variable {X : Cx} {E : XK} {pos : Pos}
theorem gN_ok {i : Nat} {x : D} {ρ : Fr} {z : Out Unit} (h : gN i x ρ = some z) : (∀ o, ρ[i]? ≠ some (.own true o)) ∧ z = .ok () (ρ.set i (.d x)) := by
  unfold gN at h
  cases q : ρ[i]? with
  | none => rw [q] at h; cases h
  | some s =>
    rw [q] at h
    match s, h with
    | .un, h => cases h; exact ⟨(by intro _ e; cases e), rfl⟩
    | .d _, h => cases h; exact ⟨(by intro _ e; cases e), rfl⟩
    | .own false _, h => cases h; exact ⟨(by intro _ e; cases e), rfl⟩
theorem dg_name {i : Nat} {x : Str} (hN : X.N.Nodup) (hi : X.N[i]? = some x) (hx : Loc X.env.scope x) (hf : X.fn x = true ∨ X.env.scope.names.lookup x = some .local := by first | exact .inl rfl | exact .inr rfl | assumption) : DG X (.Name x pos) [i] (gN i) := by
  refine ⟨_, pg_name hN hi hx hf, fun G P ρ σ F H v x Q r hv k => ?_⟩
  cases e : gN i x ρ with
  | none => rw [e] at k; exact k.elim
  | some z =>
    obtain ⟨np, rfl⟩ := gN_ok e
    rw [e] at k
    exact k _ ⟨List.length_set .., fun j hj => by rw [List.getElem?_set_ne (fun q => hj (by simp [q]))]⟩ (r.setD hv np)
theorem dgs_nil : DGs X [] [] [] := ⟨⟨_, pgs_nil, fun G P ρ σ F H vs xs Q r hv k => by
  cases hv with
  | nil => exact ⟨rfl, k σ (Agree.refl _ _) r⟩
  | cons a b => exact k.elim⟩, rfl⟩
theorem dgs_cons {e : Expr} {es : List Expr} {S T : List Nat} {g : D → Mo Unit} {gs : List (D → Mo Unit)} (h1 : DG X e S g) (h2 : DGs X es T gs) (ha : (assignEach (e :: es) X.env).map (·.2) = assign e X.env :: (assignEach es X.env).map (·.2) := by rfl) : DGs X (e :: es) (S ++ T) (g :: gs) := by
  obtain ⟨t, p, s⟩ := h1.ex
  obtain ⟨t', p', s'⟩ := h2.ex
  refine ⟨⟨_, pgs_cons p p' ha, fun G P ρ σ F H vs xs Q r hv k => ?_⟩, congrArg (· + 1) h2.len⟩
  cases hv with
  | nil => exact k.elim
  | @cons v vs x xs a b =>
    refine ⟨v, vs, rfl, s G P ρ σ F H v x _ r a ?_⟩
    unfold tgtS bnd at k
    cases e1 : g x ρ with
    | none => rw [e1] at k; exact k.elim
    | some z =>
      rw [e1] at k
      cases z with
      | exc c => exact k.elim
      | ok u ρ1 =>
        refine fun σ1 ag r1 => s' G P ρ1 σ1 F H vs xs Q r1 b ?_
        change GOK X.K (S ++ T) G P σ F H Q (tgtS gs xs ρ1) at k
        cases e2 : tgtS gs xs ρ1 with
        | none => rw [e2] at k; exact k.elim
        | some z =>
          rw [e2] at k
          cases z with
          | exc c => exact k.elim
          | ok u ρ2 => exact fun σ2 ag2 r2 => k σ2 ((ag.mono fun j hj => List.mem_append_left _ hj).trans (ag2.mono fun j hj => List.mem_append_right _ hj)) r2
theorem dg_tup {es : List Expr} {k n : Nat} {S : List Nat} {gs : List (D → Mo Unit)} (hc : X.calm = true) (h : DGs X es S gs) (hn : (assignEach es X.env).length = n := by rfl) (hst : (assignEach es X.env).findIdx? (·.1) = none := by rfl) (hl : gs.length = n := by rfl) : DG X (.Tuple es k pos) S (gT gs) := by
  obtain ⟨t, p, s⟩ := h.ex
  have key : ∀ {Q : St → Hp → Prop} {G : Hp} {P : Nat → Option Addr} {F H : Hp} {gs : List (D → Mo Unit)} {xs : List D} {ρ : Fr} {σ : St}, GOK X.K S G P σ F H Q (tgtS gs xs ρ) → xs.length = gs.length := by
    intro Q G P F H gs
    induction gs with
    | nil => intro xs ρ σ k; cases xs with
      | nil => rfl
      | cons x xs => exact k.elim
    | cons g gs ih => intro xs ρ σ k; cases xs with
      | nil => exact k.elim
      | cons x xs =>
        unfold tgtS bnd at k
        cases e : g x ρ with
        | none => rw [e] at k; exact k.elim
        | some z =>
          rw [e] at k
          cases z with
          | exc c => exact k.elim
          | ok u ρ1 => exact congrArg (· + 1) (ih (ρ := ρ1) (σ := σ) k)
  refine ⟨_, pg_or (pg_tup hc p hn hst) (pg_lst hc p hn hst), fun G P ρ σ F H v x Q r hv k => ?_⟩
  unfold gT at k
  cases x with
  | tuple xs =>
    cases hv with
    | @tup a vs xs h1 h2 =>
      refine .inl ⟨a, vs, rfl, Same.sqT r.fh h1, ?_, s G P ρ σ F H vs xs Q r h2 k⟩
      rw [h2.length, ← hl]
      exact key k
  | list xs =>
    cases hv with
    | @lst a vs xs h1 h2 =>
      refine .inr ⟨a, vs, rfl, .inl (Same.rd r.fh h1), ?_, s G P ρ σ F H vs xs Q r h2 k⟩
      rw [h2.length, ← hl]
      exact key k
  | _ => exact k.elim

/-! ### what is walked -/
def JW (K : PySem.W.Frag) (J : It) (xs : List D) (F : Hp) : Prop := ∀ (i : Nat) (F' H' : Hp), Same F F' → Same F' H' →
  (i = xs.length → J.stop i H') ∧ ∀ x, xs[i]? = some x → J.go i H' ∧ ∀ v H'', J.yld i H' v H'' → (H'' = H' ∧ Dq K F' v x) ∨ ∃ T o, H' T = none ∧ v = .ref T ∧ H'' = upd H' T o ∧ Dq K (upd F' T o) v x
def RI (K : PySem.W.Frag) : Rel (List D) It := fun _ _ _ F _ xs J => JW K J xs F
structure DI (X : Cx) (E : XK) (tg e : Expr) (m : Mo (List D)) : Prop where
  ex : ∃ t, PI X tg e t ∧ Snd X E (RI X.K) m t
def iSeq (K : PySem.W.Frag) (tl : TE) : TI := fun σ H R => tl σ H fun x H1 => ∃ a, x = .ref a ∧ (((∃ xs, SqL K H1 a xs) ∧ R (Itl K a) H1) ∨ ((∃ xs, SqT K H1 a xs) ∧ R (Itt K a) H1) )
theorem pi_seq {tg l : Expr} {tl : TE} (hl : PE X l tl) : PI X tg l (iSeq X.K tl) := by
  refine ⟨fun pins s σ H R I h => ?_⟩
  refine thn (hl.run pins s σ H _ I h) fun v s1 ⟨x, H1, I1, r1, q1⟩ => ?_
  obtain ⟨a, e, q⟩ := q1
  subst e
  cases r1
  rcases q with ⟨⟨xs, hq⟩, q⟩ | ⟨⟨xs, hq⟩, q⟩
  · obtain ⟨its, rv, p, hz⟩ := I1.list hq
    refine wpAny_pyIter_list p.isList ?_
    refine ⟨s1.heap.objs.size, [s1.heap.objs.size], _, _, H1, rfl, I1.kept (t' := s1.toks) fun b o e => Heap.get?_push_of_some _ e, turn_list a _, ⟨_, Heap.get?_push_size _ rfl, rfl, rfl⟩, fun b hb => ?_, q⟩
    have e : b = s1.heap.objs.size := by simpa using hb
    subst e
    exact I1.fpOk (Nat.le_refl _) (I1.hok.fresh (Nat.le_refl _))
  · obtain ⟨its, rv, p, hz⟩ := I1.tuple hq
    refine wpAny_pyIter_tuple (show s1.heap.IsTuple a its.toArray from p) ?_
    refine ⟨s1.heap.objs.size, [s1.heap.objs.size], _, _, H1, rfl, I1.kept (t' := s1.toks) fun b o e => Heap.get?_push_of_some _ e, turn_tuple a _, ⟨_, Heap.get?_push_size _ rfl, rfl, rfl⟩, fun b hb => ?_, q⟩
    have e : b = s1.heap.objs.size := by simpa using hb
    subst e
    exact I1.fpOk (Nat.le_refl _) (I1.hok.fresh (Nat.le_refl _))
def itemsOf : D → Option (List D)
  | .list xs => some xs
  | .tuple xs => some xs
  | _ => none
def mItems (m : Mo D) : Mo (List D) := bnd m fun x => lift (itemsOf x)
theorem jw_list {K : PySem.W.Frag} {F : Hp} {a : Addr} {vs : List V} {xs : List D} (h : Rd F a (.lst vs)) (hd : DqAll K F vs xs) : JW K (Itl K a) xs F := fun i F' H' s s' => by
  have q : SqL K H' a vs := .inl (Same.rd (s.trans s') h)
  refine ⟨fun e => ?_, fun x e => ?_⟩
  · have := (walk_list (K := K) (a := a) (xs := vs)).stops H' q
    rw [hd.length] at this
    rw [e]; exact this
  · have hi : i < vs.length := by rw [hd.length]; exact (List.getElem?_eq_some_iff.mp e).1
    refine ⟨(walk_list (K := K) (a := a) (xs := vs)).goes i H' hi q, fun v H'' y => ?_⟩
    obtain ⟨e1, e2⟩ := (walk_list (K := K) (a := a) (xs := vs)).yields i H' v H'' hi q y
    obtain ⟨x', e3, e4⟩ := hd.getV e2
    rw [e] at e3; cases e3
    exact .inl ⟨e1, e4.mono s⟩
theorem jw_tup {K : PySem.W.Frag} {F : Hp} {a : Addr} {vs : List V} {xs : List D} (h : SqT K F a vs) (hd : DqAll K F vs xs) : JW K (Itt K a) xs F := fun i F' H' s s' => by
  have q : SqT K H' a vs := Same.sqT (s.trans s') h
  refine ⟨fun e => ?_, fun x e => ?_⟩
  · have := (walk_tup (K := K) (a := a) (xs := vs)).stops H' q
    rw [hd.length] at this
    rw [e]; exact this
  · have hi : i < vs.length := by rw [hd.length]; exact (List.getElem?_eq_some_iff.mp e).1
    refine ⟨(walk_tup (K := K) (a := a) (xs := vs)).goes i H' hi q, fun v H'' y => ?_⟩
    obtain ⟨e1, e2⟩ := (walk_tup (K := K) (a := a) (xs := vs)).yields i H' v H'' hi q y
    obtain ⟨x', e3, e4⟩ := hd.getV e2
    rw [e] at e3; cases e3
    exact .inl ⟨e1, e4.mono s⟩
theorem di_seq {tg e : Expr} {m : Mo D} (h : DE X E e m) : DI X E tg e (mItems m) := by
  obtain ⟨t, p, s⟩ := h.ex
  refine ⟨_, pi_seq p, fun G P ρ σ F H Q r k => EOK.bind (t := t) r k s fun x ρ1 v F1 H1 _ r1 hv k1 => ?_⟩
  obtain ⟨xs, e1, k2⟩ := k1.lift
  cases x with
  | list ys =>
    cases e1
    cases hv with
    | @lst a vs ys h1 h2 => exact ⟨a, rfl, .inl ⟨⟨vs, .inl (Same.rd r1.fh h1)⟩, k2.give r1 (jw_list h1 h2)⟩⟩
  | tuple ys =>
    cases e1
    cases hv with
    | @tup a vs ys h1 h2 => exact ⟨a, rfl, .inr ⟨⟨vs, Same.sqT r1.fh h1⟩, k2.give r1 (jw_tup h1 h2)⟩⟩
  | _ => cases e1
/-- the signs of a text -/
def signs (z : Str) : List D := z.cps.toList.map fun c => .str ⟨#[c]⟩
def mSigns (m : Mo D) : Mo (List D) := bnd m fun x => match x with | .str z => ret (signs z) | _ => fail
theorem di_str {tg e : Expr} {m : Mo D} (h : DE X E e m) : DI X E tg e (mSigns m) := by
  obtain ⟨t, p, s⟩ := h.ex
  refine ⟨_, pi_str p, fun G P ρ σ F H Q r k => EOK.bind (t := t) r k s fun x ρ1 v F1 H1 _ r1 hv k1 => ?_⟩
  cases x with
  | str z =>
    cases hv
    refine ⟨z, rfl, k1.give r1 fun i F' H' s s' => ⟨fun e => ?_, fun x e => ?_⟩⟩
    · have : i = z.cps.size := by rw [e]; simp [signs]
      rw [this]
      exact walk_str.stops H' True.intro
    · have hi : i < z.cps.size := by
        have := (List.getElem?_eq_some_iff.mp e).1
        simpa [signs] using this
      refine ⟨walk_str.goes i H' hi True.intro, fun v H'' y => ?_⟩
      obtain ⟨e1, c, e2, e3⟩ := walk_str.yields i H' v H'' hi True.intro y
      refine .inl ⟨e1, ?_⟩
      have e4 : x = .str ⟨#[c]⟩ := by
        unfold signs at e
        rw [List.getElem?_map, Array.getElem?_toList, e2] at e
        exact (Option.some.inj e).symm
      rw [e3, e4]
      exact .str _
  | _ => exact k1.elim
def rangeL (lo : Int) (n : Nat) : List D := (List.range n).map fun (i : Nat) => .int (lo + (i : Int))
theorem rangeL_get {lo : Int} {n i : Nat} {x : D} (e : (rangeL lo n)[i]? = some x) : i < n ∧ x = .int (lo + (i : Int)) := by
  unfold rangeL at e
  have hi : i < n := by
    have := (List.getElem?_eq_some_iff.mp e).1
    simpa using this
  rw [List.getElem?_map, List.getElem?_range hi] at e
  exact ⟨hi, (Option.some.inj e).symm⟩
theorem jw_range {K : PySem.W.Frag} {lo : Int} {n : Nat} {F : Hp} : JW K (Itr lo n) (rangeL lo n) F := fun i F' H' s s' => by
  refine ⟨fun e => ?_, fun x e => ?_⟩
  · have : i = n := by rw [e]; simp [rangeL]
    rw [this]
    exact walk_range.stops H' True.intro
  · obtain ⟨hi, rfl⟩ := rangeL_get e
    refine ⟨walk_range.goes i H' hi True.intro, fun v H'' y => ?_⟩
    obtain ⟨e1, e2⟩ := walk_range.yields i H' v H'' hi True.intro y
    rw [e2]
    exact .inl ⟨e1, .int _⟩
def rg1 : List D → Option (List D)
  | [.int j] => if -(2 ^ 62) ≤ j ∧ j < 2 ^ 62 then some (rangeL 0 j.toNat) else none
  | _ => none
def rg2 : List D → Option (List D)
  | [.int i, .int j] => if -(2 ^ 62) ≤ i ∧ i < 2 ^ 62 ∧ -(2 ^ 62) ≤ j ∧ j < 2 ^ 62 then some (rangeL i (j - i).toNat) else none
  | _ => none
def mRng (g : List D → Option (List D)) (ms : Mo (List Arg)) : Mo (List D) := bnd ms fun as => bnd (opnds as) fun xs => lift (g xs)
theorem di_range1 {tg a : Expr} {ms : Mo (List Arg)} {p : Pos} (hg : Gl X "range") (hm : X.mg "range" = none) (ha : DA X E [a] ms) (hs : starEach [a] X.env = [(false, eval a X.env)] := by rfl) : DI X E tg (.Call (.Name "range" p) [a] [] pos) (mRng rg1 ms) := by
  obtain ⟨t, pt, s⟩ := ha.ex
  refine ⟨_, pi_range1 hg hm pt hs, fun G P ρ σ F H Q r k => EOK.bind (t := t) r k s fun as ρ1 vs F1 H1 _ r1 hv k1 => ?_⟩
  obtain ⟨ds, h1, k2⟩ := k1.opnds r1 hv
  obtain ⟨xs, e1, k3⟩ := k2.lift
  unfold rg1 at e1
  split at e1
  · split at e1
    · rename_i hc
      cases e1
      obtain ⟨v, rfl, q⟩ := h1.one
      rw [q.int]
      exact ⟨_, rfl, hc.1, hc.2, k3.give r1 jw_range⟩
    · cases e1
  · cases e1
theorem di_range2 {tg a b : Expr} {ms : Mo (List Arg)} {p : Pos} (hg : Gl X "range") (hm : X.mg "range" = none) (ha : DA X E [a, b] ms) (hs : starEach [a, b] X.env = [(false, eval a X.env), (false, eval b X.env)] := by rfl) (hs2 : starEach [b] X.env = [(false, eval b X.env)] := by rfl) : DI X E tg (.Call (.Name "range" p) [a, b] [] pos) (mRng rg2 ms) := by
  obtain ⟨t, pt, s⟩ := ha.ex
  refine ⟨_, pi_range2 hg hm pt hs hs2, fun G P ρ σ F H Q r k => EOK.bind (t := t) r k s fun as ρ1 vs F1 H1 _ r1 hv k1 => ?_⟩
  obtain ⟨ds, h1, k2⟩ := k1.opnds r1 hv
  obtain ⟨xs, e1, k3⟩ := k2.lift
  unfold rg2 at e1
  split at e1
  · split at e1
    · rename_i hc
      cases e1
      obtain ⟨v, w, rfl, q, q'⟩ := h1.two
      rw [q.int, q'.int]
      exact ⟨_, _, rfl, hc, k3.give r1 jw_range⟩
    · cases e1
  · cases e1

/-! ### for, while -/
def forL (g : D → Mo Unit) (body : Mo Fl) : List D → Mo Fl
  | [] => ret .nx
  | x :: xs => fun ρ => match g x ρ with
    | some (.ok () ρ1) => mSeq body (forL g body xs) ρ1
    | _ => none
def mFor (mi : Mo (List D)) (g : D → Mo Unit) (body : Mo Fl) : Mo Fl := bnd mi fun xs => forL g body xs
theorem ds_for {tg iter : Expr} {body : List Stmt} {mi : Mo (List D)} {g : D → Mo Unit} {S : List Nat} {m : Mo Fl} (hp : PassesOwn (model X.prog X.w) X.A X.env X.xe) (hc : X.calm = true) (hi : DI X E tg iter mi) (hg : DG X tg S g) (hb : DSs X E body m)
    (hs : ∀ x, foldedSetIterable iter X.env x = pure x := by intro _; rfl) : DS X E (.For tg iter body [] pos) (mFor mi g m) := by
  obtain ⟨ti, pi, si⟩ := hi.ex
  obtain ⟨tg', pg, sg⟩ := hg.ex
  obtain ⟨tb, pb, sb⟩ := hb.ex
  refine ⟨_, ps_for hp hc pi pg pb hs, fun G P ρ σ F H Dn r k => SOK.bind (t := ti) r k si fun xs ρ1 J F1 H1 _ r1 hJ k1 => ?_⟩
  have hJ : JW X.K J xs F1 := hJ
  refine ⟨fun i k σ H => k = xs.length - i ∧ i ≤ xs.length ∧ ∃ ρ F', Same F1 F' ∧ Rp X.K G P ρ σ F' H ∧ SOK X E G P F' Dn (forL g m (xs.drop i) ρ), ⟨_, rfl, Nat.zero_le _, ρ1, F1, Same.refl _, r1, k1⟩, ?_⟩
  rintro i m' σ H ⟨rfl, hi, ρ', F', s, r', k'⟩
  obtain ⟨j1, j2⟩ := hJ i F' H s r'.fh
  by_cases hlt : i < xs.length
  · refine .inr ?_
    have hx : xs[i]? = some xs[i] := by simp [hlt]
    obtain ⟨j3, j4⟩ := j2 _ hx
    refine ⟨j3, fun σ H => ∃ ρ F', Same F1 F' ∧ Rp X.K G P ρ σ F' H ∧ SOK X E G P F' Dn (forL g m (xs.drop (i + 1)) ρ), fun σ' H' h => ⟨xs.length - (i + 1), by omega, rfl, hlt, h⟩, fun v H' y => ?_⟩
    rw [List.drop_eq_getElem_cons hlt] at k'
    have main : ∀ F2 H2, Same F' F2 → Rp X.K G P ρ' σ F2 H2 → Dq X.K F2 v xs[i] → tg' v σ H2 (fun σ2 H3 => tb { Dn with nx := fun σ H => ∃ ρ F', Same F1 F' ∧ Rp X.K G P ρ σ F' H ∧ SOK X E G P F' Dn (forL g m (xs.drop (i + 1)) ρ), ct := fun σ H => ∃ ρ F', Same F1 F' ∧ Rp X.K G P ρ σ F' H ∧ SOK X E G P F' Dn (forL g m (xs.drop (i + 1)) ρ), bk := Dn.nx } σ2 H3) := by
      intro F2 H2 s2 r2 hv
      refine sg G P ρ' σ F2 H2 v xs[i] _ r2 hv ?_
      have k2 := k'.mono s2
      unfold forL at k2
      cases e : g xs[i] ρ' with
      | none => simp only [e] at k2; exact k2.elim
      | some z =>
        simp only [e] at k2
        cases z with
        | exc c => exact k2.elim
        | ok u ρ2 =>
          refine fun σ' _ r3 => sb G P ρ2 σ' F2 H2 _ r3 ?_
          have k2 : SOK X E G P F2 Dn (mSeq m (forL g m (xs.drop (i + 1))) ρ2) := k2
          unfold mSeq bnd at k2
          cases e2 : m ρ2 with
          | none => rw [e2] at k2; exact k2
          | some z =>
            rw [e2] at k2
            cases z with
            | exc c => exact k2
            | ok fl ρ3 =>
              cases fl with
              | nx => exact fun σ3 F3 H3 s3 r4 => ⟨ρ3, F3, (s.trans s2).trans s3, r4, k2.mono s3⟩
              | rt s => exact k2
    rcases j4 v H' y with ⟨rfl, hv⟩ | ⟨T, o, hT, rfl, rfl, hv⟩
    · exact main F' _ (Same.refl _) r' hv
    · exact main _ _ (same_upd (r'.free hT).1) (r'.grow hT) hv
  · have e : i = xs.length := by omega
    refine .inl ⟨j1 e, ?_⟩
    rw [List.drop_of_length_le (by omega)] at k'
    exact k' σ F' H (Same.refl _) r'
/-- so many turns at most -/
def whN (c : Mo Bool) (b : Mo Fl) : Nat → Mo Fl
  | 0 => fail
  | n + 1 => bnd c fun t => match t with
    | true => mSeq b (whN c b n)
    | false => ret .nx
theorem whN_mono {c : Mo Bool} {b : Mo Fl} : ∀ {n : Nat} {ρ : Fr} {z : Out Fl}, whN c b n ρ = some z → ∀ k, whN c b (n + k) ρ = some z
  | 0, _, _, h, _ => by cases h
  | n + 1, ρ, z, h, k => by
    rw [show n + 1 + k = n + k + 1 by omega]
    unfold whN bnd at h ⊢
    cases e : c ρ with
    | none => rw [e] at h; cases h
    | some y =>
      rw [e] at h
      cases y with
      | exc c => exact h
      | ok t ρ1 =>
        cases t with
        | false => exact h
        | true =>
          simp only [mSeq, bnd] at h ⊢
          cases e2 : b ρ1 with
          | none => rw [e2] at h; cases h
          | some y =>
            rw [e2] at h
            cases y with
            | exc c => exact h
            | ok fl ρ2 => cases fl with
              | nx => exact whN_mono h k
              | rt s => exact h
open Classical in
noncomputable def mWhile (c : Mo Bool) (b : Mo Fl) : Mo Fl := fun ρ => if h : ∃ n, (whN c b n ρ).isSome = true then whN c b h.choose ρ else none
theorem mWhile_of {c : Mo Bool} {b : Mo Fl} {n : Nat} {ρ : Fr} {z : Out Fl} (h : whN c b n ρ = some z) : mWhile c b ρ = some z := by
  have hx : ∃ n, (whN c b n ρ).isSome = true := ⟨n, by rw [h]; rfl⟩
  unfold mWhile
  rw [dif_pos hx]
  obtain ⟨y, hy⟩ := Option.isSome_iff_exists.mp hx.choose_spec
  rw [hy]
  have h1 := whN_mono h hx.choose
  have h2 := whN_mono hy n
  rw [Nat.add_comm, h1] at h2
  exact h2.symm
theorem mWhile_some {c : Mo Bool} {b : Mo Fl} {ρ : Fr} {z : Out Fl} (h : mWhile c b ρ = some z) : ∃ n, whN c b n ρ = some z := by
  unfold mWhile at h
  split at h
  · exact ⟨_, h⟩
  · cases h
theorem SOK.some {G : Hp} {P : Nat → Option Addr} {F : Hp} {Dn : Ends} {o : Option (Out Fl)} (h : SOK X E G P F Dn o) : ∃ z, o = some z := by
  cases o with
  | none => exact h.elim
  | some z => exact ⟨z, rfl⟩
theorem ds_while {c : Expr} {body : List Stmt} {mc : Mo Bool} {m : Mo Fl} (hp : PassesOwn (model X.prog X.w) X.A X.env X.xe) (hc : DT X E c mc) (hb : DSs X E body m) : DS X E (.While c body [] pos) (mWhile mc m) := by
  obtain ⟨tc, pc, sc⟩ := hc.ex
  obtain ⟨tb, pb, sb⟩ := hb.ex
  refine ⟨_, ps_while hp pc pb, fun G P ρ σ F H Dn r k => ?_⟩
  obtain ⟨z, hz⟩ := k.some
  obtain ⟨n, hn⟩ := mWhile_some hz
  rw [hz, ← hn] at k
  refine ⟨fun n σ H => ∃ ρ F', Same F F' ∧ Rp X.K G P ρ σ F' H ∧ SOK X E G P F' Dn (whN mc m n ρ), ⟨n, ρ, F, Same.refl _, r, k⟩, ?_⟩
  rintro n σ H ⟨ρ, F', s, r', k'⟩
  cases n with
  | zero => exact k'.elim
  | succ n =>
    refine SOK.bind (t := tc) r' k' sc fun b ρ1 b' F1 H1 s1 r1 hb' k1 => ?_
    obtain rfl : b = b' := hb'
    cases b with
    | false => rw [if_neg Bool.false_ne_true]; exact k1 _ F1 H1 (Same.refl _) r1
    | true =>
      rw [if_pos rfl]
      refine ⟨fun σ H => ∃ ρ F', Same F F' ∧ Rp X.K G P ρ σ F' H ∧ SOK X E G P F' Dn (whN mc m n ρ), fun σ' H' h => ⟨n, Nat.lt_succ_self _, h⟩, sb G P ρ1 σ F1 H1 _ r1 ?_⟩
      have k2 : SOK X E G P F1 Dn (mSeq m (whN mc m n) ρ1) := k1
      unfold mSeq bnd at k2
      cases e2 : m ρ1 with
      | none => rw [e2] at k2; exact k2
      | some z =>
        rw [e2] at k2
        cases z with
        | exc c => exact k2
        | ok fl ρ3 =>
          cases fl with
          | nx => exact fun σ3 F3 H3 s3 r4 => ⟨ρ3, F3, (s.trans s1).trans s3, r4, k2.mono s3⟩
          | rt s => exact k2

/-! ### the canonical reading of what is told by data -/
def tM {α β : Type} (X : Cx) (E : XK) (R : Rel α β) (m : Mo α) : St → Hp → (β → Hp → Prop) → Prop := fun σ H Q => ∃ G P ρ F, Rp X.K G P ρ σ F H ∧ EOK X E R G P σ F Q (m ρ)
theorem DE.pe {e : Expr} {m : Mo D} (h : DE X E e m) : PE X e (tM X E (RE X.K) m) := by
  obtain ⟨t, p, s⟩ := h.ex
  exact ⟨fun pins sh σ H Q I ⟨G, P, ρ, F, r, k⟩ => p.run pins sh σ H Q I (s G P ρ σ F H Q r k)⟩
theorem snd_tM {α β : Type} {R : Rel α β} {m : Mo α} : Snd X E R m (tM X E R m) := fun G P ρ σ F H Q r k => ⟨G, P, ρ, F, r, k⟩

end
end DL
end
section
namespace DL
open PySem PySem.Spec L2
open PyProof.Rows hiding St

/-! ### comprehensions -/
abbrev XN : XK := fun _ _ _ => False
structure DTs (X : Cx) (E : XK) (es : List Expr) (m : Mo Bool) : Prop where
  pt : PTs X es (tM X E RT m)
theorem dts_nil {X : Cx} {E : XK} : DTs X E [] (ret true) := ⟨⟨fun pins s σ H Q I ⟨G, P, ρ, F, r, k⟩ => pts_nil.run pins s σ H Q I (k.give r rfl)⟩⟩
theorem dts_one {X : Cx} {E : XK} {c : Expr} {m : Mo Bool} (h : DT X E c m) : DTs X E [c] m := by
  obtain ⟨t, p, s⟩ := h.ex
  exact ⟨⟨fun pins sh σ H Q I ⟨G, P, ρ, F, r, k⟩ => (pts_one p).run pins sh σ H Q I (s G P ρ σ F H Q r k)⟩⟩
def tGm (K : PySem.W.Frag) (S : List Nat) (g : D → Mo Unit) : TG := fun v σ H Q => ∃ G P ρ F x, Rp K G P ρ σ F H ∧ Dq K F v x ∧ GOK K S G P σ F H Q (g x ρ)
theorem DG.pg {X : Cx} {tg : Expr} {S : List Nat} {g : D → Mo Unit} (h : DG X tg S g) : PG X tg (tGm X.K S g) := by
  obtain ⟨t, p, s⟩ := h.ex
  exact ⟨fun pins sh σ H v u Q I r ⟨G, P, ρ, F, x, r1, hv, k⟩ => p.run pins sh σ H v u Q I r (s G P ρ σ F H v x Q r1 hv k)⟩
def isOwn : Sl → Bool
  | .own _ _ => true
  | _ => false
def wipeF (vs : List Nat) : Nat → Fr → Option Fr
  | _, [] => some []
  | i, s :: ρ => match wipeF vs (i + 1) ρ with
    | none => none
    | some l => if vs.contains i = true then (if isOwn s = true then none else some (.un :: l)) else some (s :: l)
def restF (vs : List Nat) : Nat → Fr → Fr → Fr
  | i, s :: ρ, t :: τ => (if vs.contains i = true then s else t) :: restF vs (i + 1) ρ τ
  | _, _, _ => []
theorem wipeF_get {vs : List Nat} : ∀ {ρ l : Fr} {j : Nat}, wipeF vs j ρ = some l → l.length = ρ.length ∧ ∀ (i : Nat) (s : Sl), ρ[i]? = some s → if vs.contains (j + i) = true then isOwn s = false ∧ l[i]? = some .un else l[i]? = some s
  | [], l, j, h => by cases h; exact ⟨rfl, fun i s e => by simp at e⟩
  | s :: ρ, l, j, h => by
    unfold wipeF at h
    cases q : wipeF vs (j + 1) ρ with
    | none => rw [q] at h; cases h
    | some l' =>
      rw [q] at h
      obtain ⟨h1, h2⟩ := wipeF_get q
      simp only at h
      by_cases hc : vs.contains j = true
      · rw [if_pos hc] at h
        by_cases ho : isOwn s = true
        · rw [if_pos ho] at h; cases h
        · rw [if_neg ho] at h
          cases h
          refine ⟨by simp [h1], fun i t e => ?_⟩
          cases i with
          | zero =>
            cases e
            rw [Nat.add_zero, if_pos hc]
            exact ⟨by simpa using ho, rfl⟩
          | succ i =>
            have := h2 i t (by simpa using e)
            rw [show j + (i + 1) = j + 1 + i by omega]
            simpa using this
      · rw [if_neg hc] at h
        cases h
        refine ⟨by simp [h1], fun i t e => ?_⟩
        cases i with
        | zero =>
          cases e
          rw [Nat.add_zero, if_neg hc]
          rfl
        | succ i =>
          have := h2 i t (by simpa using e)
          rw [show j + (i + 1) = j + 1 + i by omega]
          simpa using this
theorem restF_get {vs : List Nat} : ∀ {ρ τ : Fr} {j : Nat}, τ.length = ρ.length → (restF vs j ρ τ).length = ρ.length ∧ ∀ (i : Nat), (restF vs j ρ τ)[i]? = if vs.contains (j + i) = true then ρ[i]? else τ[i]?
  | [], [], j, _ => ⟨rfl, fun i => by simp [restF]⟩
  | [], _ :: _, j, h => by simp at h
  | _ :: _, [], j, h => by simp at h
  | s :: ρ, t :: τ, j, h => by
    obtain ⟨h1, h2⟩ := restF_get (vs := vs) (ρ := ρ) (τ := τ) (j := j + 1) (by simpa using h)
    refine ⟨by simp [restF, h1], fun i => ?_⟩
    cases i with
    | zero =>
      simp only [restF, Nat.add_zero, List.getElem?_cons_zero]
      split <;> rfl
    | succ i =>
      have := h2 i
      simp only [restF, List.getElem?_cons_succ, this]
      rw [show j + 1 + i = j + (i + 1) by omega]
theorem wipe_get {σ : St} {i : Nat} : ∀ {vs : List Nat}, i ∉ vs → (wipe σ vs)[i]? = σ[i]?
  | [], _ => rfl
  | v :: vs, h => by
    unfold wipe
    rw [List.getElem?_set_ne (fun e => h (by simp [e]))]
    exact wipe_get fun q => h (List.mem_cons_of_mem _ q)
theorem wipe_in {σ : St} {i : Nat} {o : Option V} : ∀ {vs : List Nat}, i ∈ vs → (wipe σ vs)[i]? = some o → o = none
  | v :: vs, h, e => by
    unfold wipe at e
    rcases get_set e with ⟨_, q, _⟩ | ⟨n, q⟩
    · exact q
    · rcases List.mem_cons.mp h with h | h
      · exact absurd h.symm n
      · exact wipe_in h q
section
variable {K : PySem.W.Frag} {G : Hp} {P : Nat → Option Addr} {ρ ρw : Fr} {σ : St} {F H : Hp} {vs : List Nat} {Dd : Addr} {acc : List V}
theorem Rp.wiped (r : Rp K G P ρ σ F H) (hw : wipeF vs 0 ρ = some ρw) (hH : H Dd = some (.lst acc)) (hF : F Dd = none) (hn : NotOwn ρ σ Dd) : Rp K (upd G Dd (.lst acc)) P ρw (wipe σ vs) F H := by
  obtain ⟨h1, h2⟩ := wipeF_get hw
  have key : ∀ {i : Nat} {s : Sl}, ρw[i]? = some s → s = .un ∨ (i ∉ vs ∧ ρ[i]? = some s) := fun {i s} e => by
    have hi : i < ρ.length := by rw [← h1]; exact (List.getElem?_eq_some_iff.mp e).1
    have q := h2 i ρ[i] (by simp [hi])
    rw [Nat.zero_add] at q
    by_cases hc : vs.contains i = true
    · rw [if_pos hc] at q
      rw [q.2] at e
      cases e
      exact .inl rfl
    · rw [if_neg hc] at q
      rw [q] at e
      cases e
      exact .inr ⟨fun hm => hc (by simpa using hm), by simp [hi]⟩
  exact {
    len := by rw [h1, wipe_length]; exact r.len
    fh := r.fh
    gh := fun a o e => by
      by_cases q : a = Dd
      · rw [q, upd_same] at e; rw [q, hH]; exact e
      · rw [upd_ne q] at e; exact r.gh a o e
    dj := fun a o e => by
      by_cases q : a = Dd
      · rw [q]; exact hF
      · rw [upd_ne q] at e; exact r.dj a o e
    val := fun i x e => by
      rcases key e with q | ⟨q1, q2⟩
      · cases q
      · rw [wipe_get q1]; exact r.val i x q2
    own := fun i b o e => by
      rcases key e with q | ⟨q1, q2⟩
      · cases q
      · obtain ⟨p, ho, z1, z2, z3, z4, z5⟩ := r.own i b o q2
        refine ⟨p, ho, by rw [wipe_get q1]; exact z1, z2, z3, z4, ?_⟩
        rw [upd_ne (fun q => hn i b o q2 (by rw [← q]; exact z1))]
        exact z5
    sep := fun i j b c o u p e1 e2 f1 f2 => by
      rcases key e1 with q | ⟨q1, q2⟩
      · cases q
      rcases key e2 with q | ⟨q3, q4⟩
      · cases q
      rw [wipe_get q1] at f1
      rw [wipe_get q3] at f2
      exact r.sep i j b c o u p q2 q4 f1 f2
    pin := fun i p e => by
      obtain ⟨z1, o, z2⟩ := r.pin i p e
      have q := h2 i _ z2
      rw [Nat.zero_add] at q
      by_cases hc : vs.contains i = true
      · rw [if_pos hc] at q
        cases q.1
      · rw [if_neg hc] at q
        exact ⟨by rw [wipe_get (fun hm => hc (by simpa using hm))]; exact z1, o, q⟩
    pin2 := fun i o e => by
      rcases key e with q | ⟨q1, q2⟩
      · cases q
      · exact r.pin2 i o q2 }
theorem Rp.rest {ρ4 : Fr} {σ2 : St} {S : List Nat} {F4 H4 : Hp} (r : Rp K G P ρ σ F H) (hw : wipeF vs 0 ρ = some ρw) (hG : G Dd = none) (hs : ∀ j ∈ S, j ∈ vs) (ag : Agree S (wipe σ vs) σ2) (s : Same F F4)
    (r4 : Rp K (upd G Dd (.lst acc)) P ρ4 σ2 F4 H4) : Rp K G P (restF vs 0 ρ ρ4) σ F4 H4 ∧ H4 Dd = some (.lst acc) ∧ F4 Dd = none ∧ NotOwn (restF vs 0 ρ ρ4) σ Dd := by
  obtain ⟨h1, h2⟩ := wipeF_get hw
  have hl : ρ4.length = ρ.length := by
    rw [r4.len, ag.1, wipe_length, r.len]
  obtain ⟨h3, h4⟩ := restF_get (vs := vs) (j := 0) hl
  have key : ∀ {i : Nat} {t : Sl}, (restF vs 0 ρ ρ4)[i]? = some t → (ρ[i]? = some t ∧ isOwn t = false) ∨ (i ∉ vs ∧ ρ4[i]? = some t ∧ σ2[i]? = σ[i]?) := fun {i t} e => by
    rw [h4 i, Nat.zero_add] at e
    by_cases hc : vs.contains i = true
    · rw [if_pos hc] at e
      have q := h2 i t e
      rw [Nat.zero_add, if_pos hc] at q
      exact .inl ⟨e, q.1⟩
    · rw [if_neg hc] at e
      have hm : i ∉ vs := fun hm => hc (by simpa using hm)
      refine .inr ⟨hm, e, ?_⟩
      rw [ag.2 i fun q => hm (hs i q), wipe_get hm]
  have sg : Same G (upd G Dd (.lst acc)) := same_upd hG
  have own_ : ∀ {i : Nat} {b : Bool} {o : Oo}, (restF vs 0 ρ ρ4)[i]? = some (.own b o) → ρ4[i]? = some (.own b o) ∧ σ2[i]? = σ[i]? := fun {i b o} e => by
    rcases key e with ⟨_, q⟩ | ⟨_, q1, q2⟩
    · cases q
    · exact ⟨q1, q2⟩
  refine ⟨{
    len := by rw [h3]; exact r.len
    fh := r4.fh
    gh := sg.trans r4.gh
    dj := fun a o e => r4.dj a o (sg a o e)
    val := fun i x e => by
      rcases key e with ⟨q, _⟩ | ⟨_, q1, q2⟩
      · obtain ⟨v, z1, z2⟩ := r.val i x q
        exact ⟨v, z1, z2.mono s⟩
      · rw [← q2]; exact r4.val i x q1
    own := fun i b o e => by
      obtain ⟨q1, q2⟩ := own_ e
      obtain ⟨p, ho, z1, z2, z3, z4, z5⟩ := r4.own i b o q1
      exact ⟨p, ho, by rw [← q2]; exact z1, z2, z3, z4, sg.free z5⟩
    sep := fun i j b c o u p e1 e2 f1 f2 => by
      obtain ⟨q1, q2⟩ := own_ e1
      obtain ⟨q3, q4⟩ := own_ e2
      rw [← q2] at f1
      rw [← q4] at f2
      exact r4.sep i j b c o u p q1 q3 f1 f2
    pin := fun i p e => by
      obtain ⟨z1, o, z2⟩ := r4.pin i p e
      obtain ⟨w1, o', w2⟩ := r.pin i p e
      refine ⟨w1, o, ?_⟩
      rw [h4 i, Nat.zero_add]
      have q := h2 i _ w2
      rw [Nat.zero_add] at q
      by_cases hc : vs.contains i = true
      · rw [if_pos hc] at q; cases q.1
      · rw [if_neg hc]; exact z2
    pin2 := fun i o e => r4.pin2 i o (own_ e).1 }, r4.gh Dd _ upd_same, r4.dj Dd _ upd_same, fun i b o e z => ?_⟩
  obtain ⟨q1, q2⟩ := own_ e
  obtain ⟨p, ho, z1, z2, z3, z4, z5⟩ := r4.own i b o q1
  rw [← q2] at z
  rw [z] at z1
  cases z1
  rw [upd_same] at z5
  cases z5
end
/-- one turn: the new item, or none -/
def mTurn (g : D → Mo Unit) (c : Mo Bool) (e : Mo D) (x : D) : Mo (Option D) := fun ρ => match g x ρ with
  | some (.ok () ρ1) => bnd c (fun t => match t with
    | true => bnd e fun y => ret (some y)
    | false => ret none) ρ1
  | _ => none
def compL (vs : List Nat) (g : D → Mo Unit) (c : Mo Bool) (e : Mo D) : List D → List D → Mo (List D)
  | [], acc => ret acc
  | x :: xs, acc => fun ρ => match wipeF vs 0 ρ with
    | none => none
    | some ρw => match mTurn g c e x ρw with
      | some (.ok (some y) ρ4) => if acc.length < sizeLine then compL vs g c e xs (acc ++ [y]) (restF vs 0 ρ ρ4) else none
      | some (.ok none ρ4) => compL vs g c e xs acc (restF vs 0 ρ ρ4)
      | _ => none
def mComp (vs : List Nat) (mi : Mo (List D)) (g : D → Mo Unit) (c : Mo Bool) (e : Mo D) : Mo Oo := bnd mi fun xs => bnd (compL vs g c e xs []) fun l => ret (.l l)
theorem snd_lc {X : Cx} {E : XK} {mi : Mo (List D)} {ti : TI} {g : D → Mo Unit} {S : List Nat} {mc : Mo Bool} {me : Mo D} {vs : List Nat} (si : Snd X E (RI X.K) mi ti) (hS : ∀ j ∈ S, j ∈ vs) :
    Snd X E (RO X.K) (mComp vs mi g mc me) (tLc ti (tGm X.K S g) (tM X XN RT mc) (tM X XN (RE X.K) me) vs) := by
  intro G P ρ σ F H Q r k
  refine EOK.bind (t := ti) r k si fun xs ρ1 J F1 H1 _ r1 hJ k1 => ?_
  have hJ : JW X.K J xs F1 := hJ
  intro Dd hD
  have hfr := r1.free hD
  refine ⟨fun i n H => n = xs.length - i ∧ i ≤ xs.length ∧ ∃ ρ F' acc accD, Same F1 F' ∧ Rp X.K G P ρ σ F' H ∧ H Dd = some (.lst acc) ∧ F' Dd = none ∧ NotOwn ρ σ Dd ∧ DqAll X.K F' acc accD ∧
    EOK X E (RO X.K) G P σ F' Q (bnd (compL vs g mc me (xs.drop i) accD) (fun l => ret (.l l)) ρ), ⟨_, rfl, Nat.zero_le _, ρ1, F1, [], [], Same.refl _, r1.more hD, upd_same, hfr.1, r1.notOwn hD, .nil, k1⟩, ?_⟩
  rintro i n H ⟨rfl, hi, ρ', F', acc, accD, s, r', hH, hF, hn, ha, k'⟩
  obtain ⟨j1, j2⟩ := hJ i F' H s r'.fh
  by_cases hlt : i < xs.length
  · refine .inr ?_
    have hx : xs[i]? = some xs[i] := by simp [hlt]
    obtain ⟨j3, j4⟩ := j2 _ hx
    refine ⟨j3, fun H => ∃ ρ F' acc accD, Same F1 F' ∧ Rp X.K G P ρ σ F' H ∧ H Dd = some (.lst acc) ∧ F' Dd = none ∧ NotOwn ρ σ Dd ∧ DqAll X.K F' acc accD ∧
      EOK X E (RO X.K) G P σ F' Q (bnd (compL vs g mc me (xs.drop (i + 1)) accD) (fun l => ret (.l l)) ρ), fun H' h => ⟨xs.length - (i + 1), by omega, rfl, hlt, h⟩, fun v H' y => ?_⟩
    rw [List.drop_eq_getElem_cons hlt] at k'
    have main : ∀ F2 H2, Same F' F2 → Rp X.K G P ρ' σ F2 H2 → H2 Dd = some (.lst acc) → F2 Dd = none → Dq X.K F2 v xs[i] → tGm X.K S g v (wipe σ vs) H2 (fun σ2 H2 => wipe σ2 vs = wipe σ vs ∧ tM X XN RT mc σ2 H2 fun b H3 =>
        if b = true then tM X XN (RE X.K) me σ2 H3 fun y H4 => ∃ acc, H4 Dd = some (.lst acc) ∧ acc.length < sizeLine ∧ ∃ ρ F' acc' accD, Same F1 F' ∧ Rp X.K G P ρ σ F' (upd H4 Dd (.lst (acc ++ [y]))) ∧ (upd H4 Dd (.lst (acc ++ [y]))) Dd = some (.lst acc') ∧ F' Dd = none ∧ NotOwn ρ σ Dd ∧ DqAll X.K F' acc' accD ∧
          EOK X E (RO X.K) G P σ F' Q (bnd (compL vs g mc me (xs.drop (i + 1)) accD) (fun l => ret (.l l)) ρ)
        else ∃ ρ F' acc accD, Same F1 F' ∧ Rp X.K G P ρ σ F' H3 ∧ H3 Dd = some (.lst acc) ∧ F' Dd = none ∧ NotOwn ρ σ Dd ∧ DqAll X.K F' acc accD ∧
          EOK X E (RO X.K) G P σ F' Q (bnd (compL vs g mc me (xs.drop (i + 1)) accD) (fun l => ret (.l l)) ρ)) := by
      intro F2 H2 s2 r2 hH2 hF2 hv
      have k2 := k'.mono s2
      unfold compL bnd at k2
      cases hw : wipeF vs 0 ρ' with
      | none => simp only [hw] at k2; exact k2.elim
      | some ρw =>
        simp only [hw] at k2
        have rw_ := r2.wiped hw hH2 hF2 hn
        have hGD : G Dd = none := hfr.2
        refine ⟨_, P, ρw, F2, xs[i], rw_, hv, ?_⟩
        unfold mTurn at k2
        cases eg : g xs[i] ρw with
        | none => simp only [eg] at k2; exact k2.elim
        | some z =>
          cases z with
          | exc c => simp only [eg] at k2; exact k2.elim
          | ok u ρ3 =>
            simp only [eg] at k2
            refine fun σ2 ag r3 => ⟨?_, _, P, ρ3, F2, r3, ?_⟩
            · refine List.ext_getElem? fun j => ?_
              by_cases hj : j ∈ vs
              · have l1 : (wipe σ2 vs).length = (wipe σ vs).length := by rw [wipe_length, ag.1]
                by_cases hjl : j < (wipe σ vs).length
                · have e1 : (wipe σ vs)[j]? = some (wipe σ vs)[j] := by simp [hjl]
                  have e2 : (wipe σ2 vs)[j]? = some ((wipe σ2 vs)[j]'(by rw [l1]; exact hjl)) := by
                    rw [List.getElem?_eq_getElem]
                  rw [e1, e2, wipe_in hj e1, wipe_in hj e2]
                · rw [List.getElem?_eq_none (by omega), List.getElem?_eq_none (by omega)]
              · rw [wipe_get hj, ag.2 j (fun q => hj (hS j q)), wipe_get hj]
            · cases ec : mc ρ3 with
              | none => simp only [bnd, ec] at k2; exact k2.elim
              | some z =>
                cases z with
                | exc c => simp only [bnd, ec] at k2; exact k2.elim
                | ok b ρ4 =>
                  rintro b' F5 H5 s5 r5 rfl
                  cases b with
                  | false =>
                    rw [if_neg Bool.false_ne_true]
                    simp only [bnd, ec, ret] at k2
                    obtain ⟨w1, w2, w3, w4⟩ := r2.rest hw hGD hS ag s5 r5
                    exact ⟨_, F5, acc, accD, (s.trans s2).trans s5, w1, w2, w3, w4, ha.mono (s2.trans s5), k2.mono s5⟩
                  | true =>
                    rw [if_pos rfl]
                    refine ⟨_, P, ρ4, F5, r5, ?_⟩
                    cases ee : me ρ4 with
                    | none => simp only [bnd, ec, ee] at k2; exact k2.elim
                    | some z =>
                      cases z with
                      | exc c => simp only [bnd, ec, ee] at k2; exact k2.elim
                      | ok y ρ5 =>
                        intro v' F6 H6 s6 r6 hv'
                        have hv' : Dq X.K F6 v' y := hv'
                        simp only [bnd, ec, ee, ret] at k2
                        by_cases hl : accD.length < sizeLine
                        · rw [if_pos hl] at k2
                          obtain ⟨w1, w2, w3, w4⟩ := r2.rest hw hGD hS ag (s5.trans s6) r6
                          have ha6 := ha.mono ((s2.trans s5).trans s6)
                          exact ⟨acc, w2, by rw [ha.length]; exact hl, _, F6, acc ++ [v'], accD ++ [y], ((s.trans s2).trans s5).trans s6, w1.wrote w3 hGD w4, upd_same, w3, w4, ha6.append (.one hv'), k2.mono (s5.trans s6)⟩
                        · rw [if_neg hl] at k2; exact k2.elim
    rcases j4 v H' y with ⟨rfl, hv⟩ | ⟨T, o, hT, rfl, rfl, hv⟩
    · exact main F' _ (Same.refl _) r' hH hF hv
    · have nT : Dd ≠ T := fun q => by rw [q, hT] at hH; cases hH
      exact main _ _ (same_upd (r'.free hT).1) (r'.grow hT) (by rw [upd_ne nT]; exact hH) (by rw [upd_ne nT]; exact hF) hv
  · have e : i = xs.length := by omega
    refine .inl ⟨j1 e, ?_⟩
    rw [List.drop_of_length_le (by omega)] at k'
    exact k' (.ref Dd) F' H (Same.refl _) r' ⟨Dd, _, rfl, hH, ha, hF, hfr.2, hn⟩
section
variable {X : Cx} {E : XK} {elt tg iter : Expr} {ifs : List Expr} {scope : Scope} {own : List (Str × Nat)} {pos spos : Pos} {mi : Mo (List D)} {g : D → Mo Unit} {S : List Nat} {mc : Mo Bool} {me : Mo D}
theorem do_lc (own : List (Str × Nat)) (hc : X.calm = true) (hN : X.N.Nodup) (hi : DI X E tg iter mi) (ok : BlkOk X.N X.env.scope scope own)
    (hg : ∀ (s : Shared) (H : Hp) (C : Addr) (cl : List (Str × Addr)) (fp : List Addr), DG (X.blk s H scope (compEnvC scope cl C X.env) fp) tg S g)
    (ht : ∀ (s : Shared) (H : Hp) (C : Addr) (cl : List (Str × Addr)) (fp : List Addr), DTs (X.blk s H scope (compEnvC scope cl C X.env) fp) XN ifs mc)
    (he : ∀ (s : Shared) (H : Hp) (C : Addr) (cl : List (Str × Addr)) (fp : List Addr), DE (X.blk s H scope (compEnvC scope cl C X.env) fp) XN elt me) (hS : ∀ j ∈ S, j ∈ own.map (·.2) := by decide) (hs : ∀ x, foldedSetIterable iter X.env x = pure x := by intro _; rfl) :
    DO X E (.ListComp elt [⟨tg, iter, ifs, 0⟩] scope pos) (mComp (own.map (·.2)) mi g mc me) := by
  obtain ⟨ti, pi, si⟩ := hi.ex
  exact ⟨_, pe_lc (g := tGm X.K S g) (tt := tM X XN RT mc) (te := tM X XN (RE X.K) me) hc hN pi ok (fun s H C cl fp => (hg s H C cl fp).pg) (fun s H C cl fp => (ht s H C cl fp).pt) (fun s H C cl fp => (he s H C cl fp).pe) hs, snd_lc si hS⟩
/-- y = [..], kept by the slot, or frozen -/
theorem ds_setLcO {i : Nat} {y : Str} {py : Pos} (own : List (Str × Nat)) (hc : X.calm = true) (hN : X.N.Nodup) (hy : X.N[i]? = some y) (hyl : X.env.scope.names.lookup y = some .local)
    (hsw : swapsWith (.ListComp elt [⟨tg, iter, ifs, 0⟩] scope pos) (some (.Name y py)) spos.line X.env = pure true) (hi : DI X E tg iter mi) (ok : BlkOk X.N X.env.scope scope own)
    (hg : ∀ (s : Shared) (H : Hp) (C : Addr) (cl : List (Str × Addr)) (fp : List Addr), DG (X.blk s H scope (compEnvC scope cl C X.env) fp) tg S g)
    (ht : ∀ (s : Shared) (H : Hp) (C : Addr) (cl : List (Str × Addr)) (fp : List Addr), DTs (X.blk s H scope (compEnvC scope cl C X.env) fp) XN ifs mc)
    (he : ∀ (s : Shared) (H : Hp) (C : Addr) (cl : List (Str × Addr)) (fp : List Addr), DE (X.blk s H scope (compEnvC scope cl C X.env) fp) XN elt me) (hS : ∀ j ∈ S, j ∈ own.map (·.2) := by decide) (hs : ∀ x, foldedSetIterable iter X.env x = pure x := by intro _; rfl) :
    DS X E (.Assign [.Name y py] (.ListComp elt [⟨tg, iter, ifs, 0⟩] scope pos) spos) (bnd (mComp (own.map (·.2)) mi g mc me) fun o => sto i (.own false o)) := by
  obtain ⟨ti, pi, si⟩ := hi.ex
  refine ⟨_, ps_setLc (g := tGm X.K S g) (tt := tM X XN RT mc) (te := tM X XN (RE X.K) me) hc hN hy hyl hsw pi ok (fun s H C cl fp => (hg s H C cl fp).pg) (fun s H C cl fp => (ht s H C cl fp).pt) (fun s H C cl fp => (he s H C cl fp).pe) hs, fun G P ρ σ F H Dn r k => ?_⟩
  refine SOK.bind (t := tLc ti (tGm X.K S g) (tM X XN RT mc) (tM X XN (RE X.K) me) (own.map (·.2))) r k (snd_lc si hS) fun a ρ1 v F1 H1 _ r1 hv k1 => ?_
  obtain ⟨np, k2⟩ := sto_np k1
  obtain ⟨p, ho, rfl, e1, e2, e3, e4, e5⟩ := hv
  exact k2 _ F1 H1 (Same.refl _) (r1.setO e1 e2 e3 e4 e5 np)
end
end DL
end
section
namespace DL
open PySem PySem.Spec L2
open PyProof.Rows hiding St

/-! ### lists that a slot owns, changed in their place -/
def chkL (i : Nat) : Mo Unit := fun ρ => match ρ[i]? with
  | some (.own _ (.l _)) => some (.ok () ρ)
  | _ => none
theorem chkL_ok {i : Nat} {ρ : Fr} {z : Out Unit} (h : chkL i ρ = some z) : ∃ b xs, ρ[i]? = some (.own b (.l xs)) ∧ z = .ok () ρ := by
  unfold chkL at h
  match q : ρ[i]?, h with
  | some (.own b (.l xs)), h => cases h; exact ⟨b, xs, rfl, rfl⟩
/-- the object of a slot is changed, an answer is given -/
def updO (i : Nat) (g : Oo → Option (D × Oo)) : Mo D := fun ρ => match ρ[i]? with
  | some (.own b o) => match g o with
    | some (z, o') => some (.ok z (ρ.set i (.own b o')))
    | none => none
  | _ => none
theorem updO_ok {i : Nat} {g : Oo → Option (D × Oo)} {ρ : Fr} {y : Out D} (h : updO i g ρ = some y) : ∃ b o z o', ρ[i]? = some (.own b o) ∧ g o = some (z, o') ∧ y = .ok z (ρ.set i (.own b o')) := by
  unfold updO at h
  cases q : ρ[i]? with
  | none => rw [q] at h; cases h
  | some s =>
    rw [q] at h
    cases s with
    | un => cases h
    | d x => cases h
    | own b o =>
      simp only at h
      cases q2 : g o with
      | none => rw [q2] at h; cases h
      | some zo =>
        rw [q2] at h
        cases h
        exact ⟨b, o, zo.1, zo.2, rfl, q2, rfl⟩
structure MD (X : Cx) (id : String) (g : List D → Oo → Option (D × Oo)) : Prop where
  ex : ∃ r, MtR X id r ∧ ∀ (F H : Hp) (p : Addr) (ho : HO) (o o' : Oo) (vs : List V) (ds : List D) (z : D) (Q : VK), Same F H → H p = some ho → RpO X.K F ho o → DqAll X.K F vs ds → g ds o = some (z, o') →
    (∀ v ho', RpO X.K F ho' o' → Dq X.K F v z → Q v (upd H p ho')) → r (.ref p) vs H Q
def mMeth (i : Nat) (g : List D → Oo → Option (D × Oo)) (ms : Mo (List Arg)) : Mo D := bnd (chkL i) fun _ => bnd ms fun as => bnd (lift (argsD as)) fun ds => updO i (g ds)
section
variable {X : Cx} {E : XK} {e : Expr} {es : List Expr}
theorem de_meth {i : Nat} {x name : Str} {id : String} {p apos cpos : Pos} {g : List D → Oo → Option (D × Oo)} {ms : Mo (List Arg)} (slot : Slot "list" name id) (hty : typeOf (.builtin id) = pure (.type "method_descriptor")) (hm : MD X id g)
    (ho : DR X E (.Name x p) (ra i)) (hN : PE X (.Name x p) (tVar i)) (ha : DA X E (e :: es) ms) (hbase : attributeBase (.Name x p) name X.env (eval (.Name x p) X.env) = eval (.Name x p) X.env := by rfl)
    (hfew : ((backTo cpos (starEach (e :: es) X.env)).all (fun x => !x.1) && (backToKw cpos (keywordEach [] X.env)).all (fun x => x.1.isSome)
      && decide ((e :: es).length + ([] : List Keyword).length + (if ([] : List Keyword).isEmpty then 0 else 1) < 30)) = true := by rfl)
    (hline : (apos.endLine == cpos.line) = true := by rfl) (hs : starEach (e :: es) X.env = (false, eval e X.env) :: starEach es X.env := by rfl) (hplain : (backTo cpos (starEach es X.env)).any (·.1) = false := by rfl) :
    DE X E (.Call (.Attribute (.Name x p) name apos) (e :: es) [] cpos) (mMeth i g ms) := by
  obtain ⟨t, pt, s⟩ := ha.ex
  obtain ⟨r, hr, hg⟩ := hm.ex
  refine ⟨_, pe_bm PySem.F.plainAttrs_list slot hty hr hN pt hbase hfew hline hs hplain, fun G P ρ σ F H Q rr k => ?_⟩
  unfold mMeth at k
  cases ec : chkL i ρ with
  | none => simp only [bnd, ec] at k; exact k.elim
  | some z =>
    obtain ⟨b, xs, e1, rfl⟩ := chkL_ok ec
    obtain ⟨p, ho, q1, q2, q3, _⟩ := rr.own i b _ e1
    refine ⟨_, q1, ?_, ?_⟩
    · cases ho with
      | lst vs => exact .inl ⟨rfl, vs, SqL.of q2⟩
      | _ => exact q3.elim
    · have k0 : EOK X E (RE X.K) G P σ F Q (bnd ms (fun as => bnd (lift (argsD as)) fun ds => updO i (g ds)) ρ) := by
        unfold bnd at k
        rw [ec] at k
        exact k
      refine EOK.bind (t := t) rr k0 s fun as ρ1 vs F1 H1 _ r1 hv k1 => ?_
      cases ea : argsD as with
      | none => simp only [bnd, lift, ea] at k1; exact k1.elim
      | some ds =>
        have k2 : EOK X E (RE X.K) G P σ F1 Q (updO i (g ds) ρ1) := by
          unfold bnd lift at k1
          rw [ea] at k1
          exact k1
        cases eu : updO i (g ds) ρ1 with
        | none => rw [eu] at k2; exact k2.elim
        | some y =>
          obtain ⟨b', o, z, o', z1, z2, rfl⟩ := updO_ok eu
          rw [eu] at k2
          obtain ⟨p', ho', w1, w2, w3, w4, w5⟩ := r1.own i b' o z1
          rw [q1] at w1
          cases w1
          exact hg F1 H1 p ho' o o' vs ds z Q r1.fh w2 w3 (argsD_ok hv ea) z2 fun v ho2 h1 h2 => k2 v F1 _ (Same.refl _) (r1.chg z1 q1 h1) h2
def gAppend : List D → Oo → Option (D × Oo)
  | [x], .l xs => if xs.length < sizeLine then some (.none, .l (xs ++ [x])) else none
  | _, _ => none
theorem md_append : MD X "list.append" gAppend := by
  refine ⟨_, mt_append, fun F H p ho o o' vs ds z Q s hp hr hv hg k => ?_⟩
  unfold gAppend at hg
  split at hg
  · split at hg
    · cases hg
      cases ho with
      | lst ws =>
        have hr : DqAll X.K F ws _ := hr
        cases hv with
        | cons a b =>
          cases b
          exact ⟨p, ws, _, rfl, rfl, hp, by rw [hr.length]; assumption, k _ (.lst _) (show DqAll X.K F _ _ from hr.append (.one a)) .non⟩
      | _ => exact hr.elim
    · cases hg
  · cases hg
/-- x[i] = e -/
def gSet (v k : D) : Oo → Option (D × Oo)
  | .l xs => match k with
    | .int j => match ixN xs.length j with
      | some n => some (.none, .l (xs.set n v))
      | none => none
    | _ => none
  | _ => none
def mSetIx (i : Nat) (me mi : Mo D) : Mo Fl := bnd me fun v => bnd (chkL i) fun _ => bnd mi fun k => bnd (updO i (gSet v k)) fun _ => ret .nx
theorem sok_chkL {G : Hp} {P : Nat → Option Addr} {F : Hp} {Dn : Ends} {ρ : Fr} {i : Nat} {k : Mo Fl} (h : SOK X E G P F Dn (bnd (chkL i) (fun _ => k) ρ)) : ∃ b xs, ρ[i]? = some (Sl.own b (.l xs)) ∧ SOK X E G P F Dn (k ρ) := by
  cases ec : chkL i ρ with
  | none => simp only [bnd, ec] at h; exact h.elim
  | some z =>
    obtain ⟨b, xs, e1, rfl⟩ := chkL_ok ec
    unfold bnd at h
    rw [ec] at h
    exact ⟨b, xs, e1, h⟩
theorem ds_setix {i : Nat} {x : Str} {b : Expr} {p p2 pos : Pos} {me mi : Mo D} (he : DE X E e me) (hN : PE X (.Name x p) (tVar i)) (hi : DE X E b mi)
    (hs : swapsWithSole [.Subscript (.Name x p) b p2] e pos.line X.env = pure false := by rfl) (hw : swappedStores [.Subscript (.Name x p) b p2] e X.env = pure none := by rfl)
    (h1 : (assignEach [.Subscript (.Name x p) b p2] X.env).map (·.2) = [assign (.Subscript (.Name x p) b p2) X.env] := by rfl)
    (ha : ∀ v : Value, assign (.Subscript (.Name x p) b p2) X.env v = (do
      let ov ← holding [v] (eval (.Name x p) X.env)
      let iv ← holding [v, ov] (eval b X.env)
      standAt p2
      holding [v, ov, iv] (setItem ov iv v)
      release [v, ov, iv] []) := by intro _; rfl) : DS X E (.Assign [.Subscript (.Name x p) b p2] e pos) (mSetIx i me mi) := by
  obtain ⟨t, pt, s⟩ := he.ex
  obtain ⟨ti, pi, si⟩ := hi.ex
  refine ⟨_, ps_asg pt (pg_sub hN pi set_list ha) hs hw h1, fun G P ρ σ F H Dn r k => SOK.bind (t := t) r k s fun v ρ1 v' F1 H1 _ r1 hv k1 => ?_⟩
  have hv : Dq X.K F1 v' v := hv
  obtain ⟨bb, xs, e1, k1⟩ := sok_chkL k1
  obtain ⟨p, ho, q1, _⟩ := r1.own i bb _ e1
  refine ⟨_, q1, SOK.bind (t := ti) r1 k1 si fun kk ρ2 kv F2 H2 s2 r2 hk k2 => ?_⟩
  have hk : Dq X.K F2 kv kk := hk
  cases eu : updO i (gSet v kk) ρ2 with
  | none => unfold bnd at k2; rw [eu] at k2; exact k2.elim
  | some y =>
    obtain ⟨b', o, z, o', z1, z2, rfl⟩ := updO_ok eu
    unfold bnd at k2
    rw [eu] at k2
    obtain ⟨p', ho', w1, w2, w3, w4, w5⟩ := r2.own i b' o z1
    rw [q1] at w1
    cases w1
    unfold gSet at z2
    split at z2
    · split at z2
      · split at z2
        · rename_i n hn
          cases z2
          cases hk
          cases ho' with
          | lst ws =>
            have w3 : DqAll X.K F2 ws _ := w3
            refine ⟨p, ws, _, n, rfl, rfl, w2, by rw [w3.length]; exact hn, ?_⟩
            exact k2 _ F2 _ (Same.refl _) (r2.chg z1 q1 (show RpO X.K F2 (.lst _) (.l _) from w3.set (hv.mono s2) n))
          | _ => exact w3.elim
        · cases z2
      · cases z2
    · cases z2
end

/-! ### several names at once -/
section
variable {X : Cx} {E : XK} {pos : Pos}
def sto2 (i : Nat) (x : D) : Mo Fl := sto i (.d x)
def mPar2 (i j : Nat) (m : Mo (List D)) : Mo Fl := bnd m fun xs => match xs with
  | [x, y] => mSeq (sto2 i x) (sto2 j y)
  | _ => fail
theorem sto_seq {G : Hp} {P : Nat → Option Addr} {F H : Hp} {Dn : Ends} {ρ : Fr} {σ : St} {i : Nat} {x : D} {v : V} {k : Mo Fl} (r : Rp X.K G P ρ σ F H) (hv : Dq X.K F v x) (h : SOK X E G P F Dn (mSeq (sto2 i x) k ρ)) :
    Rp X.K G P (ρ.set i (.d x)) (σ.set i (some v)) F H ∧ SOK X E G P F Dn (k (ρ.set i (.d x))) := by
  have np : (∀ o, ρ[i]? ≠ some (Sl.own true o)) ∧ sto2 i x ρ = some (.ok .nx (ρ.set i (.d x))) := by
    unfold mSeq bnd sto2 sto at h
    unfold sto2 sto
    cases q : ρ[i]? with
    | none => simp only [q] at h; exact h.elim
    | some s =>
      match s, q with
      | .un, q => exact ⟨(by intro _ e; cases e), rfl⟩
      | .d _, q => exact ⟨(by intro _ e; cases e), rfl⟩
      | .own false _, q => exact ⟨(by intro _ e; cases e), rfl⟩
      | .own true _, q => simp only [q] at h; exact h.elim
  refine ⟨r.setD hv np.1, ?_⟩
  unfold mSeq bnd at h
  rw [np.2] at h
  exact h
theorem sto_last {G : Hp} {P : Nat → Option Addr} {F H : Hp} {Dn : Ends} {ρ : Fr} {σ : St} {i : Nat} {x : D} {v : V} (r : Rp X.K G P ρ σ F H) (hv : Dq X.K F v x) (h : SOK X E G P F Dn (sto2 i x ρ)) : Dn.nx (σ.set i (some v)) H := by
  obtain ⟨np, k2⟩ := sto_np h
  exact k2 _ F H (Same.refl _) (r.setD hv np)
theorem DqAll.two {K : PySem.W.Frag} {F : Hp} {vs : List V} {x y : D} (h : DqAll K F vs [x, y]) : ∃ v w, vs = [v, w] ∧ Dq K F v x ∧ Dq K F w y := by
  cases h with
  | cons a b => cases b with
    | cons c d => cases d; exact ⟨_, _, rfl, a, c⟩
theorem DqAll.three {K : PySem.W.Frag} {F : Hp} {vs : List V} {x y z : D} (h : DqAll K F vs [x, y, z]) : ∃ v w u, vs = [v, w, u] ∧ Dq K F v x ∧ Dq K F w y ∧ Dq K F u z := by
  cases h with
  | cons a b => obtain ⟨w, u, rfl, c, d⟩ := b.two; exact ⟨_, _, _, rfl, a, c, d⟩
theorem ds_par {i j : Nat} {x y : Str} {a b : Expr} {ms : Mo (List Arg)} {px py pt : Pos} {kt k2 pt2} (hc : X.calm = true) (hN : X.N.Nodup) (hi : X.N[i]? = some x) (hj : X.N[j]? = some y) (hij : i ≠ j)
    (hx : X.env.scope.names.lookup x = some .local) (hy : X.env.scope.names.lookup y = some .local) (ha : DA X E [a, b] ms)
    (hw : swappedStores [.Tuple [.Name x px, .Name y py] kt pt] (.Tuple [a, b] k2 pt2) X.env = pure (some [x, y]))
    (hs : swapsWithSole [.Tuple [.Name x px, .Name y py] kt pt] (.Tuple [a, b] k2 pt2) pos.line X.env = pure false := by rfl) :
    DS X E (.Assign [.Tuple [.Name x px, .Name y py] kt pt] (.Tuple [a, b] k2 pt2) pos) (mPar2 i j (vals ms)) := by
  obtain ⟨t, p, s⟩ := ha.ex
  refine ⟨_, ps_par hc hN hi hj hij hx hy p hw hs, fun G P ρ σ F H Dn r k => ?_⟩
  have k : SOK X E G P F Dn (bnd ms (fun as => fun ρ => bnd (lift (argsD as)) (fun xs => match xs with | [x, y] => mSeq (sto2 i x) (sto2 j y) | _ => fail) ρ) ρ) := by
    unfold mPar2 vals at k
    unfold bnd at k ⊢
    cases e : ms ρ with
    | none => rw [e] at k; exact k
    | some z => rw [e] at k; cases z <;> exact k
  refine SOK.bind (t := t) r k s fun as ρ1 vs F1 H1 _ r1 hv k1 => ?_
  cases ea : argsD as with
  | none => simp only [bnd, lift, ea] at k1; exact k1.elim
  | some xs =>
    have hd := argsD_ok hv ea
    match xs, hd, ea with
    | [x, y], hd, ea =>
      have k2 : SOK X E G P F1 Dn (mSeq (sto2 i x) (sto2 j y) ρ1) := by
        unfold bnd lift at k1
        rw [ea] at k1
        exact k1
      obtain ⟨v, w, rfl, h1, h2⟩ := hd.two
      obtain ⟨r2, k3⟩ := sto_seq r1 h1 k2
      exact ⟨v, w, rfl, sto_last r2 h2 k3⟩
    | [], hd, ea => simp only [bnd, lift, ea] at k1; exact k1.elim
    | [_], hd, ea => simp only [bnd, lift, ea] at k1; exact k1.elim
    | _ :: _ :: _ :: _, hd, ea => simp only [bnd, lift, ea] at k1; exact k1.elim
def mPar3 (i j l : Nat) (m : Mo (List D)) : Mo Fl := bnd m fun xs => match xs with
  | [x, y, z] => mSeq (sto2 i x) (mSeq (sto2 j y) (sto2 l z))
  | _ => fail
theorem ds_par3 {i j l : Nat} {x y z : Str} {a b c : Expr} {ms : Mo (List Arg)} {px py pz pt : Pos} {kt k2 pt2} (hc : X.calm = true) (hN : X.N.Nodup) (hi : X.N[i]? = some x) (hj : X.N[j]? = some y) (hl : X.N[l]? = some z) (hij : i ≠ j) (hil : i ≠ l) (hjl : j ≠ l)
    (hx : X.env.scope.names.lookup x = some .local) (hy : X.env.scope.names.lookup y = some .local) (hz : X.env.scope.names.lookup z = some .local) (ha : DA X E [a, b, c] ms)
    (hw : swappedStores [.Tuple [.Name x px, .Name y py, .Name z pz] kt pt] (.Tuple [a, b, c] k2 pt2) X.env = pure (some [x, y, z]))
    (hs : swapsWithSole [.Tuple [.Name x px, .Name y py, .Name z pz] kt pt] (.Tuple [a, b, c] k2 pt2) pos.line X.env = pure false := by rfl) :
    DS X E (.Assign [.Tuple [.Name x px, .Name y py, .Name z pz] kt pt] (.Tuple [a, b, c] k2 pt2) pos) (mPar3 i j l (vals ms)) := by
  obtain ⟨t, p, s⟩ := ha.ex
  refine ⟨_, ps_par3 hc hN hi hj hl hij hil hjl hx hy hz p hw hs, fun G P ρ σ F H Dn r k => ?_⟩
  have k : SOK X E G P F Dn (bnd ms (fun as => fun ρ => bnd (lift (argsD as)) (fun xs => match xs with | [x, y, z] => mSeq (sto2 i x) (mSeq (sto2 j y) (sto2 l z)) | _ => fail) ρ) ρ) := by
    unfold mPar3 vals at k
    unfold bnd at k ⊢
    cases e : ms ρ with
    | none => rw [e] at k; exact k
    | some z => rw [e] at k; cases z <;> exact k
  refine SOK.bind (t := t) r k s fun as ρ1 vs F1 H1 _ r1 hv k1 => ?_
  cases ea : argsD as with
  | none => simp only [bnd, lift, ea] at k1; exact k1.elim
  | some xs =>
    have hd := argsD_ok hv ea
    match xs, hd, ea with
    | [x, y, z], hd, ea =>
      have k2 : SOK X E G P F1 Dn (mSeq (sto2 i x) (mSeq (sto2 j y) (sto2 l z)) ρ1) := by
        unfold bnd lift at k1
        rw [ea] at k1
        exact k1
      obtain ⟨v, w, u, rfl, h1, h2, h3⟩ := hd.three
      obtain ⟨r2, k3⟩ := sto_seq r1 h1 k2
      obtain ⟨r3, k4⟩ := sto_seq r2 h2 k3
      exact ⟨v, w, u, rfl, sto_last r3 h3 k4⟩
    | [], hd, ea => simp only [bnd, lift, ea] at k1; exact k1.elim
    | [_], hd, ea => simp only [bnd, lift, ea] at k1; exact k1.elim
    | [_, _], hd, ea => simp only [bnd, lift, ea] at k1; exact k1.elim
    | _ :: _ :: _ :: _ :: _, hd, ea => simp only [bnd, lift, ea] at k1; exact k1.elim
/-- a target of any form -/
def gF (g : D → Mo Unit) (x : D) : Mo Fl := fun ρ => match g x ρ with
  | some (.ok () ρ') => some (.ok .nx ρ')
  | _ => none
theorem ds_asg {tg e : Expr} {m : Mo D} {S : List Nat} {g : D → Mo Unit} (he : DE X E e m) (hg : DG X tg S g) (hs : swapsWithSole [tg] e pos.line X.env = pure false := by rfl) (hw : swappedStores [tg] e X.env = pure none := by rfl)
    (h1 : (assignEach [tg] X.env).map (·.2) = [assign tg X.env] := by rfl) : DS X E (.Assign [tg] e pos) (bnd m (gF g)) := by
  obtain ⟨t, p, s⟩ := he.ex
  obtain ⟨tg', pg, sg⟩ := hg.ex
  refine ⟨_, ps_asg p pg hs hw h1, fun G P ρ σ F H Dn r k => SOK.bind (t := t) r k s fun x ρ1 v F1 H1 _ r1 hv k1 => sg G P ρ1 σ F1 H1 v x _ r1 hv ?_⟩
  unfold gF at k1
  cases e : g x ρ1 with
  | none => rw [e] at k1; exact k1.elim
  | some z => cases z with
    | exc c => rw [e] at k1; exact k1.elim
    | ok u ρ2 => rw [e] at k1; exact fun σ' _ r2 => k1 σ' F1 H1 (Same.refl _) r2
end
end DL
end
section
namespace DL
open PySem PySem.Spec L2
open PyProof.Rows hiding St

/-! ### methods of texts, of one argument -/
structure SM (X : Cx) (id : String) (g : Str → D → Option D) : Prop where
  ex : ∃ r, MtR X id r ∧ ∀ (G : Hp) (P : Nat → Option Addr) (ρ : Fr) (σ : St) (F H : Hp) (a : Str) (y : V) (d z : D) (Q : VK), Rp X.K G P ρ σ F H → RdH X.K F H y d → g a d = some z →
    (∀ v F' H', Same F F' → Rp X.K G P ρ σ F' H' → Dq X.K F' v z → Q v H') → r (.str a) [y] H Q
def mStr1 (g : Str → D → Option D) (mo : Mo D) (me : Mo Arg) : Mo D := bnd mo fun x => match x with
  | .str a => bnd me fun b => bnd (opnd b) fun y => lift (g a y)
  | _ => fail
section
variable {X : Cx} {E : XK} {o e : Expr} {pos apos : Pos}
theorem de_m1 {id : String} {name : Str} {g : Str → D → Option D} {mo : Mo D} {me : Mo Arg} (slot : Slot "str" name id) (ty : typeOf (.builtin id) = pure (.type "method_descriptor")) (hm : SM X id g) (ho : DE X E o mo) (he : DR X E e me)
    (hs : starEach [e] X.env = [(false, eval e X.env)] := by rfl) (hbase : attributeBase o name X.env (eval o X.env) = eval o X.env := by rfl) (hline : (apos.endLine == pos.line) = true := by rfl) :
    DE X E (.Call (.Attribute o name apos) [e] [] pos) (mStr1 g mo me) := by
  obtain ⟨t, p, s⟩ := ho.ex
  obtain ⟨te, pe, se⟩ := he.ex
  obtain ⟨r, hr, hg⟩ := hm.ex
  refine ⟨_, pe_m1 slot ty hr p pe hs hbase hline, fun G P ρ σ F H Q rr k => EOK.bind (t := t) rr k s fun x ρ1 v F1 H1 _ r1 hv k1 => ?_⟩
  cases x with
  | str a =>
    cases hv
    refine ⟨⟨a, rfl⟩, EOK.bind (t := te) r1 k1 se fun b ρ2 y F2 H2 _ r2 hy k2 => ?_⟩
    obtain ⟨d, h1, k3⟩ := k2.opnd r2 hy
    obtain ⟨z, e1, k4⟩ := k3.lift
    exact hg G P ρ2 σ F2 H2 a y d z Q r2 h1 e1 fun w F' H' s r' q => k4 w F' H' s r' q
  | _ => exact k1.elim
def sPartition (a : Str) : D → Option D
  | .str b => if (b.length == 0) = false ∧ a.length ≤ sizeLine then some (.tuple [.str (Txt.partition a b).1, .str (Txt.partition a b).2.1, .str (Txt.partition a b).2.2]) else none
  | _ => none
theorem sm_partition : SM X "str.partition" sPartition := by
  refine ⟨_, mt_partition, fun G P ρ σ F H a y d z Q r hy hg k => ?_⟩
  unfold sPartition at hg
  split at hg
  · split at hg
    · rename_i hc
      cases hg
      rw [hy.str]
      refine ⟨a, _, rfl, rfl, hc.1, hc.2, fun p hp => ?_⟩
      exact k _ _ _ (same_upd (r.free hp).1) (r.grow hp) (.tup (.inl (.inl upd_same)) (.cons (.str _) (.cons (.str _) (.cons (.str _) .nil))))
    · cases hg
  · cases hg
def sRfind (a : Str) : D → Option D
  | .str b => some (.int (Txt.rfind a b))
  | _ => none
theorem sm_rfind : SM X "str.rfind" sRfind := by
  refine ⟨_, mt_rfind, fun G P ρ σ F H a y d z Q r hy hg k => ?_⟩
  unfold sRfind at hg
  split at hg
  · cases hg
    rw [hy.str]
    exact ⟨a, _, rfl, rfl, k _ F H (Same.refl _) r (.int _)⟩
  · cases hg
def sSplit (a : Str) : D → Option D
  | .str b => if (b.length == 0) = false ∧ a.length + 2 ≤ sizeLine then some (.list ((Txt.split a b).map .str)) else none
  | _ => none
theorem DqAll.ofStrs {K : PySem.W.Frag} {F : Hp} (ns : List Str) : DqAll K F (ns.map V.str) (ns.map .str) := by
  induction ns with
  | nil => exact .nil
  | cons n ns ih => exact .cons (.str n) ih
theorem sm_split : SM X "str.split" sSplit := by
  refine ⟨_, mt_split, fun G P ρ σ F H a y d z Q r hy hg k => ?_⟩
  unfold sSplit at hg
  split at hg
  · split at hg
    · rename_i hc
      cases hg
      rw [hy.str]
      refine ⟨a, _, rfl, rfl, hc.1, hc.2, fun p hp => ?_⟩
      exact k _ _ _ (same_upd (r.free hp).1) (r.grow hp) (.lst (.inl upd_same) (.ofStrs _))
    · cases hg
  · cases hg
def strsOf : List D → Option (List Str)
  | [] => some []
  | .str i :: r => match strsOf r with
    | some l => some (i :: l)
    | none => none
  | _ :: _ => none
theorem strsOf_eq : ∀ {xs : List D} {ns : List Str}, strsOf xs = some ns → xs = ns.map .str
  | [], _, h => by cases h; rfl
  | .str i :: r, ns, h => by
    unfold strsOf at h
    cases q : strsOf r with
    | none => rw [q] at h; cases h
    | some l => rw [q] at h; cases h; rw [strsOf_eq q]; rfl
  | .none :: _, _, h => by cases h
  | .bool _ :: _, _, h => by cases h
  | .int _ :: _, _, h => by cases h
  | .list _ :: _, _, h => by cases h
  | .tuple _ :: _, _, h => by cases h
  | .dict _ :: _, _, h => by cases h
def sJoin (a : Str) (d : D) : Option D := match itemsOf d with
  | some xs => match strsOf xs with
    | some ys => if (ys.map (·.length)).sum + ys.length * a.length ≤ 16777216 then some (.str (Txt.join a ys)) else none
    | none => none
  | none => none
theorem sm_join : SM X "str.join" sJoin := by
  refine ⟨_, mt_join, fun G P ρ σ F H a y d z Q r hy hg k => ?_⟩
  unfold sJoin at hg
  cases d with
  | list xs =>
    simp only [itemsOf] at hg
    split at hg
    · rename_i ys q
      split at hg
      · cases hg
        obtain ⟨p, vs, rfl, h1, h2⟩ := hy.list r.fh
        rw [strsOf_eq q] at h2
        rw [h2.strs] at h1
        exact ⟨a, p, ys, rfl, rfl, .inl (.inl h1), by assumption, k _ F H (Same.refl _) r (.str _)⟩
      · cases hg
    · cases hg
  | tuple xs =>
    simp only [itemsOf] at hg
    split at hg
    · rename_i ys q
      split at hg
      · cases hg
        obtain ⟨p, vs, rfl, h1, h2⟩ := hy.tup
        rw [strsOf_eq q] at h2
        rw [h2.strs] at h1
        exact ⟨a, p, ys, rfl, rfl, .inr (Same.sqT r.fh h1), by assumption, k _ F H (Same.refl _) r (.str _)⟩
      · cases hg
    · cases hg
  | _ => cases hg

/-! ### raise -/
/-- an own class of exception beneath ValueError -/
structure Xc (K : PySem.W.Frag) (mg : Str → Option Value) (x : Str) : Prop where
  ex : ∃ C : Addr, mg x = some (.ref C) ∧ PySem.W.excIn K C [.type "ValueError", .type "Exception", .type "BaseException", .type "object"] "ValueError.__new__" = true ∧ PySem.W.keepIn K (.ref C) = true ∧
    PySem.W.subIn K (.ref C) (.type "BaseException") = some true ∧ PySem.W.typeIn K (.ref C) = some (.type "type")
def mRaise (c : Str) : Mo Fl := fun _ => some (.exc c)
theorem ds_raise {x m : Str} {j : Nat} {p p2 p3 : Pos} (hc : X.calm = true) (tk : Takes X (fun c d _ H => E c d H)) (hx : Xc X.K X.mg x) (hg : Gl X x) (hdb : (x == ("__debug__" : Str)) = false := by decide) :
    DS X E (.Raise (some (.Call (.Name x p) [.Constant (.str m) j p2] [] p3)) none pos) (mRaise x) := by
  obtain ⟨C, h1, h2, h3, h4, h5⟩ := hx.ex
  refine ⟨_, ps_raise hc tk (pmk_own PySem.F.excBase_ValueError h2 h1 h3 (raises_own h4 h5) hg hdb), fun G P ρ σ F H Dn r k => ?_⟩
  exact k C H h1 r.fh r.gh
end
end DL
end
section
namespace DL
open PySem PySem.Spec L2
open PyProof.Rows hiding St

abbrev dr (m : Mo D) : Mo Arg := bnd m fun x => ret (.d x)
abbrev dz (m : Mo D) : Mo Sl := bnd m fun x => ret (.d x)
abbrev doz (m : Mo Oo) : Mo Sl := bnd m fun x => ret (.own false x)
abbrev ode (m : Mo Oo) : Mo D := bnd m fun o => match o with | .l xs => ret (.list xs) | _ => fail
abbrev ac (m : Mo Arg) (ms : Mo (List Arg)) : Mo (List Arg) := bnd m fun x => bnd ms fun xs => ret (x :: xs)
theorem _root_.L2.Room.u65 {k : Nat} {A : Around} (r : Room k A) : A.units + 65 < cLine := by have := r.un; omega
/-- the built-ins that the text does not name anew -/
structure Blt (mg : Str → Option Value) : Prop where
  abs : mg "abs" = none
  all : mg "all" = none
  any : mg "any" = none
  bool : mg "bool" = none
  enumerate : mg "enumerate" = none
  int : mg "int" = none
  isinstance : mg "isinstance" = none
  len : mg "len" = none
  list : mg "list" = none
  max : mg "max" = none
  min : mg "min" = none
  range : mg "range" = none
  reversed : mg "reversed" = none
  set : mg "set" = none
  sorted : mg "sorted" = none
  str : mg "str" = none
  sum : mg "sum" = none
  tuple : mg "tuple" = none
  zip : mg "zip" = none
/-- a constant of the module -/
structure Gc (K : PySem.W.Frag) (mg : Str → Option Value) (x : Str) (d : D) : Prop where
  ex : ∃ (v : V) (u : Value), mg x = some u ∧ RelV v u ∧ ∀ F, Dq K F v d
section
variable {X : Cx} {E : XK} {e : Expr} {pos : Pos}
theorem de_gc {x : Str} {d : D} (h : Gc X.K X.mg x d) (hg : Gl X x) (hdb : (x == ("__debug__" : Str)) = false := by decide) : DE X E (.Name x pos) (ret d) := by
  obtain ⟨v, u, h1, h2, h3⟩ := h.ex
  exact de_glob hg h1 h2 h3 hdb
/-- the object of a slot is handed on -/
def mOut (i : Nat) : Mo Sl := fun ρ => match ρ[i]? with
  | some (.own false o) => some (.ok (.own false o) (ρ.set i .un))
  | _ => none
theorem dz_var (i : Nat) {x : Str} (hp : PE X (.Name x pos) (tVar i)) : DZ X E (.Name x pos) (mOut i) := by
  refine ⟨_, hp, fun G P ρ σ F H Q r k => ?_⟩
  unfold mOut at k
  cases q : ρ[i]? with
  | none => rw [q] at k; exact k.elim
  | some s =>
    rw [q] at k
    match s, q, k with
    | .own false o, q, k =>
      obtain ⟨p, ho, h1, h2, h3, h4, h5⟩ := r.own i false o q
      have np : ∀ o, ρ[i]? ≠ some (Sl.own true o) := by intro o e; rw [q] at e; cases e
      have hs : σ.set i (some (V.ref p)) = σ := by
        refine List.ext_getElem? fun j => ?_
        by_cases e : i = j
        · subst e
          rw [List.getElem?_set_self ((List.getElem?_eq_some_iff.mp h1).1), h1]
        · rw [List.getElem?_set_ne e]
      have r2 := r.setUn (i := i) (v := some (V.ref p)) np
      rw [hs] at r2
      refine ⟨_, h1, k _ F H (Same.refl _) r2 ⟨p, ho, rfl, h2, h3, h4, h5, fun j b u e z => ?_⟩⟩
      rcases get_set e with ⟨rfl, w, _⟩ | ⟨n, w⟩
      · cases w
      · exact n (r.sep i j false b o u p q w h1 z)
    | .own true o, q, k => exact k.elim
    | .d _, q, k => exact k.elim
    | .un, q, k => exact k.elim
end
section
variable {P : Program} {w : World} {K : PySem.W.Frag} {mg : Str → Option Value} {base : Heap}
theorem cb_mk {x qual : Str} {params : Arguments} {body : List Stmt} {scope : Scope} {f : Addr} {fd : FuncData} {ps : List Str} {k n : Nat} {m : Mo Sl} (F : FunD K x qual params body scope [] [] f fd) (hm : mg x = some (.ref f)) (hb : Binds K fd ps [])
    (h : FnOk P w K mg base (L2.CX P w) k f fd ps (spG K mg n m)) : Cb P w K mg base k x n m := ⟨f, fd, ps, h, hm, F.kp, hb⟩
/-- the script as data -/
def scrD (ns : List Int) : D := .dict [(.none, .list (ns.map .int))]
/-- the end: the law says True of every script -/
theorem law_true {k : Nat} {fa : Addr} {fd : FuncData} {m : Mo Sl} {x : Str} (h : FnOk P w K mg base (L2.CX P w) k fa fd [x] (spG K mg 1 m)) {B : List Int → Prop} (hl : ∀ ns : List Int, B ns → ∃ ρ, m [.d (scrD ns)] = some (.ok (.d (.bool true)) ρ)) :
    FnOk P w K mg base CX0 k fa fd [x] (fun vs H Q _ => ∃ (a : Addr) (ns : List Int), vs = [.ref a] ∧ SqL K H a (ns.map V.int) ∧ B ns ∧ ∀ H', Q (.bl true) H') := by
  refine ⟨fun vs H Q E ⟨a, ns, e, _⟩ => by rw [e]; rfl, fun A outer s H args us vs Q E hr he hb hv hs => ?_⟩
  obtain ⟨a, ns, rfl, hS, hB, hQ⟩ := hs
  obtain ⟨ρ, e⟩ := hl ns hB
  have hd : Dq K H (.ref a) (scrD ns) := .scr hS
  refine codeAny_mono (h.run A outer s H args us [.ref a] Q (fun _ _ _ => False) hr he hb hv ⟨[.d (scrD ns)], H, fun _ => none, fun _ => none, ⟨rfl, fun i s e => ?_⟩, ?_, ?_⟩) fun r s' q => ?_
  · cases i with
    | zero => cases e; exact ⟨by simp, by simp⟩
    | succ i => simp at e
  · exact {
      len := rfl
      fh := Same.refl _
      gh := fun _ _ e => by cases e
      dj := fun _ _ e => by cases e
      val := fun i x e => by
        cases i with
        | zero => cases e; exact ⟨.ref a, rfl, hd⟩
        | succ i => simp at e
      own := fun i b o e => by
        cases i with
        | zero => cases e
        | succ i => simp at e
      sep := fun i j b c o u p e => by
        cases i with
        | zero => cases e
        | succ i => simp at e
      pin := fun i p e => by cases e
      pin2 := fun i o e => by
        cases i with
        | zero => cases e
        | succ i => simp at e }
  · rw [e]
    intro v F' H' _ _ q
    have q : Dq K F' v (.bool true) := q
    cases q
    exact hQ H'
  · unfold CR at q ⊢
    match r, q with
    | .ok (.ret u), q => exact q
    | .error e, q => exact passL_false q
where
  passL_false {outer : List Env} {H : Hp} {s : Shared} {e : Value} {s' : Shared} : L2.CX P w outer H s (fun _ _ _ => False) e s' → False := fun ⟨_, _, _, _, _, _, _, _, _, _, _, _, z⟩ => z
end
section
variable {K : PySem.W.Frag} {mg : Str → Option Value}
theorem gc_int {x : Str} {i : Int} (h : ∃ t, mg x = some (.int i t)) : Gc K mg x (.int i) := let ⟨t, e⟩ := h; ⟨.int i, _, e, ⟨t, rfl⟩, fun _ => .int i⟩
theorem gc_str {x z : Str} (h : ∃ t, mg x = some (.str z t)) : Gc K mg x (.str z) := let ⟨t, e⟩ := h; ⟨.str z, _, e, ⟨t, rfl⟩, fun _ => .str z⟩
theorem gc_tup {x : Str} {a : Addr} {ns : List Int} (h : mg x = some (.ref a)) (t : ∀ H, SqT K H a (ns.map V.int)) : Gc K mg x (.tuple (ns.map .int)) := ⟨.ref a, _, h, rfl, fun F => .tup (t F) (.ofInts ns)⟩
theorem xc_mk {x : Str} {C : Addr} (h : mg x = some (.ref C)) (c : PySem.W.excIn K C He.veBase "ValueError.__new__" = true ∧ PySem.W.keepIn K (.ref C) = true ∧ PySem.W.subIn K (.ref C) (.type "BaseException") = some true ∧ PySem.W.typeIn K (.ref C) = some (.type "type")) : Xc K mg x := ⟨C, h, c⟩
end
/-- a law: F gives the written part, the function object, the promise over every base; the script's bits are told -/
theorem walk_ofEB {l : PySem.W.OpenLaw} {n k : Nat} {q : Program} {loose : List Str} {XP : (Str → Option Value) → Heap → Prop} {YP : World → Heap → Prop} {d : DefRec} {CX : CXT} {x : Str}
    (hn : l.most = some n) (hn2 : n ≤ sizeLine) (hdf : d.params.defaults = []) (hr : Room k callerA)
    (F : ∀ (w : World) (mg : Str → Option Value) (fa : Addr) (h : Heap), YP w h → h.Ns mainGlobals mg → mg d.name = some (.ref fa) →
      ∃ (K : PySem.W.Frag) (fd : FuncData) (sp : Sp), K.In h ∧ (∀ (s : Shared) (u : Value), BindsTo s fd ⟨[u], []⟩ [(x, u)]) ∧
        (∀ (H : Hp) (a : Addr) (ns : List Int), ns.length ≤ n → (∀ z ∈ ns, Builtin.Int.intBits z ≤ 1048576) → SqL K H a (ns.map V.int) → sp [.ref a] H (fun v _ => v = .bl true) fun _ _ _ => False) ∧
        ∀ base : Heap, K.In base → base.Ns mainGlobals mg → FnOk l.prog w K mg base CX k fa fd [x] sp)
    (hCX : ∀ (H : Hp) (s : Shared) (e : Value) (s' : Shared), CX [] H s (fun _ _ _ => False) e s' → False) :
    PySem.W.WalkO q loose XP YP l.row.toRowW d [] (fun f vs => PySem.call f vs) := by
  refine Att.attach_callB hn hdf fun w s₀ s₁ mg mb fa o pm cd doc a vs ns G Y ho hd hcd hmg hobj hints hlen hbits hg => ?_
  obtain ⟨K, fd, sp, KX, hb, hsp, hF⟩ := F w mg fa _ Y G.T.g hmg
  exact law_call KX G.T.g G.T.b G.T.builtins G.T.nolimit hg hobj hints (Nat.le_trans hlen hn2) hr hF hb (fun H hO hS => hsp H a ns hlen hbits hS) fun H e s' => hCX H s₁ e s'
end DL
end
section
/-! plain: what the readings come to, step by step -/
namespace DL
open PySem PySem.Spec L2
open PyProof.Rows hiding St

section
variable {α β : Type} {ρ ρ1 : Fr}
theorem bnd_of {m : Mo α} {k : α → Mo β} {a : α} (h : m ρ = some (.ok a ρ1)) : bnd m k ρ = k a ρ1 := by unfold bnd; rw [h]
theorem mSeq_nx {m n : Mo Fl} (h : m ρ = some (.ok .nx ρ1)) : mSeq m n ρ = n ρ1 := by unfold mSeq bnd; rw [h]
theorem mSeq_rt {m n : Mo Fl} {s : Sl} (h : m ρ = some (.ok (.rt s) ρ1)) : mSeq m n ρ = some (.ok (.rt s) ρ1) := by unfold mSeq bnd; rw [h]; rfl
theorem mWhile_ff {c : Mo Bool} {b : Mo Fl} (h : c ρ = some (.ok false ρ1)) : mWhile c b ρ = some (.ok .nx ρ1) :=
  mWhile_of (n := 1) (by unfold whN bnd; rw [h]; rfl)
theorem mWhile_tt {c : Mo Bool} {b : Mo Fl} {ρ2 : Fr} {z : Out Fl} (h : c ρ = some (.ok true ρ1)) (hb : b ρ1 = some (.ok .nx ρ2)) (hz : mWhile c b ρ2 = some z) : mWhile c b ρ = some z := by
  obtain ⟨n, hn⟩ := mWhile_some hz
  refine mWhile_of (n := n + 1) ?_
  unfold whN bnd
  rw [h]
  show mSeq b (whN c b n) ρ1 = _
  rw [mSeq_nx hb]
  exact hn
theorem mWhile_rt {c : Mo Bool} {b : Mo Fl} {ρ2 : Fr} {s : Sl} (h : c ρ = some (.ok true ρ1)) (hb : b ρ1 = some (.ok (.rt s) ρ2)) : mWhile c b ρ = some (.ok (.rt s) ρ2) := by
  refine mWhile_of (n := 1) ?_
  unfold whN bnd
  rw [h]
  show mSeq b (whN c b 0) ρ1 = _
  exact mSeq_rt hb
end
end DL
end
section
namespace DL
open PySem hiding ret
open PySem.Spec L2 TL
open PyProof.Rows hiding St

/-! ### operations, by their conditions -/
theorem opMul_int {i j : Int} (h : mulOk i j) : opMul (.int i) (.int j) = some (.int (i * j)) := if_pos h
theorem opFdiv_int {i j : Int} (h : divOk i j) : opFdiv (.int i) (.int j) = some (.int (i.fdiv j)) := if_pos h
theorem opMod_int {i j : Int} (h : j ≠ 0) : opMod (.int i) (.int j) = some (.int (i.fmod j)) := if_pos h
theorem opPow_int {i j : Int} (h : 0 ≤ j ∧ j ≤ 1000000 ∧ i.natAbs < 2 ^ 64) : opPow (.int i) (.int j) = some (.int (i ^ j.toNat)) := if_pos h
theorem log2_le_of {x n : Nat} (h : x < 2 ^ n) : x.log2 ≤ n := by
  by_cases hx : x = 0
  · subst hx; simp
  · exact Nat.le_of_lt ((Nat.log2_lt hx).mpr h)
theorem mulOk_of {a b : Int} {n m : Nat} (ha : a.natAbs < 2 ^ n) (hb : b.natAbs < 2 ^ m) (h : n + m < 134217000) : mulOk a b := by
  have h1 := log2_le_of ha
  have h2 := log2_le_of hb
  unfold mulOk
  omega
theorem divOk_of {a b : Int} {n : Nat} (hb : b ≠ 0) (h : b.natAbs < 2 ^ n) (hn : n < 9000) : divOk a b := ⟨hb, PyProof.noPylong_of_log2 (Nat.lt_of_le_of_lt (log2_le_of h) hn)⟩
theorem fdiv_pos {a b : Int} (h : 0 ≤ b) : a.fdiv b = a / b := Int.fdiv_eq_ediv_of_nonneg a h
theorem fmod_pos {a b : Int} (h : 0 ≤ b) : a.fmod b = a % b := Int.fmod_eq_emod_of_nonneg a h

/-! ### texts as lists of signs -/
def mkS (l : List Nat) : Str := ⟨l.toArray⟩
abbrev S (l : List Nat) : D := .str (mkS l)
theorem mkS_inj {a b : List Nat} : mkS a = mkS b ↔ a = b := by
  unfold mkS
  constructor
  · intro h
    have h : a.toArray = b.toArray := by injection h
    simpa using h
  · rintro rfl; rfl
theorem mkS_len (l : List Nat) : (mkS l).length = l.length := by simp [mkS, Str.length]
theorem mkS_app (a b : List Nat) : mkS a ++ mkS b = mkS (a ++ b) := by
  show (⟨a.toArray ++ b.toArray⟩ : Str) = _
  simp [mkS]
theorem mkS_tl (l : List Nat) : (mkS l).cps.toList = l := rfl
theorem str_mkS (z : Str) : z = mkS z.cps.toList := by obtain ⟨a⟩ := z; simp [mkS]
theorem ofString_mkS (s : String) : Str.ofString s = mkS (s.toList.map Char.toNat) := Str.ofString_eq_toList s
theorem cutS_mkS (l : List Nat) (lo hi : Option Int) : cutS (mkS l) lo hi = mkS (cutL l lo hi) := by
  unfold cutS cutL
  rw [mkS_tl, mkS_len]
  rfl
theorem slcD_S {l : List Nat} {lo hi : Option Int} (h : l.length ≤ sizeLine) : slcD (S l) lo hi = some (S (cutL l lo hi)) := by
  show (if (mkS l).length ≤ sizeLine then some (PyData.str (cutS (mkS l) lo hi)) else none) = _
  rw [mkS_len, if_pos h, cutS_mkS]
theorem opAdd_S {a b : List Nat} (h : a.length + b.length ≤ sizeLine) : opAdd (S a) (S b) = some (S (a ++ b)) := by
  show (if (mkS a).length + (mkS b).length ≤ sizeLine then some (PyData.str (mkS a ++ mkS b)) else none) = _
  rw [mkS_len, mkS_len, if_pos h, mkS_app]
theorem eqD_S (a b : List Nat) : eqD (S a) (S b) = some (decide (a = b)) := by
  show some (decide (mkS a = mkS b)) = _
  simp only [mkS_inj]
theorem opEq_S (a b : List Nat) : opEq (S a) (S b) = some (.bool (decide (a = b))) := by unfold opEq; rw [eqD_S]
theorem opNe_S (a b : List Nat) : opNe (S a) (S b) = some (.bool (!decide (a = b))) := by unfold opNe; rw [eqD_S]
theorem opEq_int (i j : Int) : opEq (.int i) (.int j) = some (.bool (decide (i = j))) := rfl
theorem opNe_int (i j : Int) : opNe (.int i) (.int j) = some (.bool (!decide (i = j))) := rfl
theorem bLen_S {l : List Nat} (h : l.length ≤ sizeLine) : bLen [S l] = some (.int l.length) := by
  show (if (mkS l).length ≤ sizeLine then some (PyData.int (mkS l).length) else none) = _
  rw [mkS_len, if_pos h]
theorem cut_to {l : List Nat} {k : Nat} : cutL l none (some (k : Int)) = l.take k := by
  unfold cutL
  rw [HT.sIx_nat, HT.sIx_none]
  simp only [Nat.sub_zero, List.drop_zero]
  by_cases h : k ≤ l.length
  · rw [Nat.min_eq_left h]
  · rw [Nat.min_eq_right (by omega), List.take_of_length_le (by omega), List.take_of_length_le (by omega)]
theorem cut_from {l : List Nat} {k : Nat} : cutL l (some (k : Int)) none = l.drop k := by
  unfold cutL
  rw [HT.sIx_nat, HT.sIx_none]
  by_cases h : k ≤ l.length
  · rw [Nat.min_eq_left h, List.take_of_length_le (by simp)]
  · rw [Nat.min_eq_right (by omega), List.drop_of_length_le (Nat.le_refl _), List.drop_of_length_le (by omega), List.take_nil]
theorem sIx_m1 (n d : Nat) : HT.sIx n d (some (-1)) = n - 1 := by
  show (if (-1 : Int) < 0 then ((-1 : Int) + (n : Int)).toNat else min (-1 : Int).toNat n) = n - 1
  rw [if_pos (by decide)]
  omega
theorem cut_last {l : List Nat} : cutL l (some (-1)) none = l.drop (l.length - 1) := by
  unfold cutL
  rw [sIx_m1, HT.sIx_none, List.take_of_length_le (by simp)]
theorem cut_init {l : List Nat} : cutL l none (some (-1)) = l.take (l.length - 1) := by
  unfold cutL
  rw [sIx_m1, HT.sIx_none]
  simp
theorem cut_mid {l : List Nat} {k : Nat} : cutL l (some (k : Int)) (some (-1)) = (l.take (l.length - 1)).drop k := by
  unfold cutL
  rw [sIx_m1, HT.sIx_nat, List.drop_take]
  by_cases h : k ≤ l.length
  · rw [Nat.min_eq_left h]
  · rw [Nat.min_eq_right (by omega), List.drop_of_length_le (Nat.le_refl _), List.drop_of_length_le (l := l) (by omega)]
    simp

/-! ### whole numbers as texts -/
def isDig (c : Nat) : Bool := decide (48 ≤ c) && decide (c ≤ 57)
def intL (i : Int) : List Nat := if i < 0 then 45 :: numL i.natAbs else numL i.natAbs
theorem tl_eq (z : Str) : tl z = z.cps.toList := rfl
theorem str_nat (n : Nat) : Str.ofString (toString ((n : Nat) : Int)) = mkS (numL n) := by
  rw [str_mkS (Str.ofString _)]
  exact congrArg mkS (tl_num n)
theorem str_int (i : Int) : Str.ofString (toString i) = mkS (intL i) := by
  unfold intL
  by_cases h : i < 0
  · rw [if_pos h]
    obtain ⟨n, rfl⟩ : ∃ n : Nat, i = Int.negSucc n := by
      cases i with
      | ofNat n => exact absurd h (by simp)
      | negSucc n => exact ⟨n, rfl⟩
    have e : toString (Int.negSucc n) = "-" ++ toString (((n + 1 : Nat)) : Int) := rfl
    rw [e, ofString_mkS]
    have e2 := str_nat (n + 1)
    rw [ofString_mkS, mkS_inj] at e2
    rw [String.toList_append, List.map_append, e2]
    rfl
  · rw [if_neg h]
    have e : i = ((i.natAbs : Nat) : Int) := by omega
    have := str_nat i.natAbs
    rw [← e] at this
    exact this
theorem bStr_int {i : Int} (h : i.natAbs.log2 < 1920) : bStr [.int i] = some (S (intL i)) := by
  show (if i.natAbs.log2 < 1920 then some (PyData.str (Str.ofString (toString i))) else none) = _
  rw [if_pos h, str_int]
theorem isDig_iff {c : Nat} : isDig c = true ↔ 48 ≤ c ∧ c ≤ 57 := by simp [isDig]
theorem numL_dig (n : Nat) : (numL n).all isDig = true := List.all_eq_true.mpr fun c hc => isDig_iff.mpr (numL_digits n c hc)
/-- the value of a written whole number -/
def valL (l : List Nat) : Int := match l with
  | 45 :: f => -((NumText.digitsVal f : Nat) : Int)
  | f => ((NumText.digitsVal f : Nat) : Int)
theorem bInt_S {l : List Nat} (h1 : (if l.take 1 = [45] then l.drop 1 else l) ≠ []) (h2 : (if l.take 1 = [45] then l.drop 1 else l).all isDig = true) (h3 : l.length ≤ 640) : bInt [S l] = some (.int (valL l)) := by
  have key : intText? (mkS l) = some (valL l) := by
    cases l with
    | nil => simp at h1
    | cons c f =>
      by_cases hc : c = 45
      · subst hc
        simp at h1 h2
        exact intText_neg (x := mkS (45 :: f)) (cs := f) rfl (fun d hd => isDig_iff.mp (h2 d hd)) h1 (by rw [mkS_len]; omega)
      · have e : ¬ (List.take 1 (c :: f) = [45]) := by simp [hc]
        rw [if_neg e] at h1 h2
        have := intText_digits (x := mkS (c :: f)) (fun d hd => isDig_iff.mp (List.all_eq_true.mp h2 d hd)) h1 (by rw [mkS_len]; omega)
        rw [this, mkS_tl]
        unfold valL
        split
        · rename_i q; cases q; exact absurd rfl hc
        · rfl
  show (match intText? (mkS l) with | some n => if (mkS l).length ≤ 640 then some (PyData.int n) else none | none => none) = _
  rw [key, mkS_len]
  exact if_pos h3
theorem valL_int (i : Int) : valL (intL i) = i := by
  unfold intL
  by_cases h : i < 0
  · rw [if_pos h]
    show -((NumText.digitsVal (numL i.natAbs) : Nat) : Int) = i
    rw [numL_val]
    omega
  · rw [if_neg h]
    have e : valL (numL i.natAbs) = ((NumText.digitsVal (numL i.natAbs) : Nat) : Int) := by
      unfold valL
      split
      · rename_i f q
        have := numL_digits i.natAbs 45 (by rw [q]; simp)
        omega
      · rfl
    rw [e, numL_val]
    omega
theorem numL_head {n : Nat} {c : Nat} {f : List Nat} (h : numL n = c :: f) : 48 ≤ c ∧ c ≤ 57 := numL_digits n c (by rw [h]; simp)

/-! ### loops -/
section
variable {ρ ρ' : Fr}
theorem mSeq_def (m n : Mo Fl) (ρ : Fr) : mSeq m n ρ = match m ρ with
    | none => none
    | some (.exc c) => some (.exc c)
    | some (.ok .nx ρ1) => n ρ1
    | some (.ok (.rt s) ρ1) => some (.ok (.rt s) ρ1) := by
  unfold mSeq bnd
  cases m ρ with
  | none => rfl
  | some z => cases z with
    | exc c => rfl
    | ok f ρ1 => cases f <;> rfl
/-- a for that runs through: I by the turn and the frame -/
theorem forL_inv {g : D → Mo Unit} {b : Mo Fl} : ∀ {xs : List D} (I : List D → Fr → Prop) {ρ : Fr}, I xs ρ → (∀ x r ρ, I (x :: r) ρ → ∃ ρ1 ρ2, g x ρ = some (.ok () ρ1) ∧ b ρ1 = some (.ok .nx ρ2) ∧ I r ρ2) →
    ∃ ρ', forL g b xs ρ = some (.ok .nx ρ') ∧ I [] ρ'
  | [], I, ρ, h, _ => ⟨ρ, rfl, h⟩
  | x :: xs, I, ρ, h, hs => by
    obtain ⟨ρ1, ρ2, h1, h2, h3⟩ := hs x xs ρ h
    obtain ⟨ρ', h4, h5⟩ := forL_inv (xs := xs) I h3 hs
    refine ⟨ρ', ?_, h5⟩
    show (match g x ρ with | some (.ok () ρ1) => mSeq b (forL g b xs) ρ1 | _ => none) = _
    rw [h1]
    show mSeq b (forL g b xs) ρ1 = _
    rw [mSeq_nx h2, h4]
/-- a comprehension whose items are told by a function -/
theorem compL_map {vs : List Nat} {g : D → Mo Unit} {c : Mo Bool} {e : Mo D} {f : D → D} {ρw : Fr} (hw : wipeF vs 0 ρ = some ρw) : ∀ {xs acc : List D}, (∀ x ∈ xs, ∃ ρ4, mTurn g c e x ρw = some (.ok (some (f x)) ρ4) ∧ restF vs 0 ρ ρ4 = ρ) → acc.length + xs.length ≤ sizeLine →
    compL vs g c e xs acc ρ = some (.ok (acc ++ xs.map f) ρ)
  | [], acc, _, _ => by simp [compL, DL.ret]
  | x :: xs, acc, h, hl => by
    obtain ⟨ρ4, h1, h2⟩ := h x (List.mem_cons_self ..)
    have hl : acc.length + (xs.length + 1) ≤ sizeLine := hl
    have ih := compL_map hw (xs := xs) (acc := acc ++ [f x]) (fun y hy => h y (List.mem_cons_of_mem _ hy)) (by rw [List.length_append, List.length_singleton]; omega)
    unfold compL
    simp only [hw, h1, h2]
    rw [if_pos (by omega), ih]
    simp
theorem mComp_map {vs : List Nat} {mi : Mo (List D)} {g : D → Mo Unit} {c : Mo Bool} {e : Mo D} {f : D → D} {xs : List D} {ρw : Fr} (hi : mi ρ = some (.ok xs ρ')) (hw : wipeF vs 0 ρ' = some ρw) (h : ∀ x ∈ xs, ∃ ρ4, mTurn g c e x ρw = some (.ok (some (f x)) ρ4) ∧ restF vs 0 ρ' ρ4 = ρ') (hl : xs.length ≤ sizeLine) :
    mComp vs mi g c e ρ = some (.ok (.l (xs.map f)) ρ') := by
  unfold mComp
  rw [bnd_of hi, bnd_of (compL_map hw h (by simpa using hl))]
  simp [DL.ret]
end
theorem boolsOf_map {α : Type} (f : α → Bool) : ∀ l : List α, boolsOf (l.map fun x => PyData.bool (f x)) = some (l.map f)
  | [] => rfl
  | x :: l => by
    show (match boolsOf (l.map fun x => PyData.bool (f x)) with | some l => some (f x :: l) | none => none) = _
    rw [boolsOf_map f l]; rfl
theorem size_le {n : Nat} (h : n ≤ 1000000) : n ≤ sizeLine := Nat.le_trans h (by decide)
end DL
end
section
namespace DL
open PySem hiding ret
open PySem.Spec L2 TL
open PyProof.Rows hiding St
section
variable {α β : Type} {ρ : Fr} {m n : Mo D} {mb nb : Mo Bool} {a b : Arg} {ma mc : Mo Arg} {ms : Mo (List Arg)} {f f' : Mo Fl} {mo : Mo Oo} {mz : Mo Sl}
theorem ev_bnd (m : Mo α) (k : α → Mo β) : bnd m k ρ = match m ρ with
  | none => none
  | some (.exc c) => some (.exc c)
  | some (.ok a ρ1) => k a ρ1 := rfl
theorem ev_ret (a : α) : DL.ret a ρ = some (.ok a ρ) := rfl
theorem ev_fail : (fail : Mo α) ρ = none := rfl
theorem ev_lift (a : α) : lift (some a) ρ = some (.ok a ρ) := rfl
theorem ev_lift0 : lift (none : Option α) ρ = none := rfl
theorem ev_opnd (x : D) : opnd (.d x) ρ = some (.ok x ρ) := rfl
theorem ev_opnds (i : Nat) : opnd (.s i) ρ = match (ρ[i]?).bind slD with
  | some x => some (.ok x ρ)
  | none => none := rfl
theorem ev_slD (b : Bool) (xs : List D) : slD (.own b (.l xs)) = some (.list xs) := rfl
theorem ev_ra (i : Nat) : ra i ρ = match ρ[i]? with
  | some (.d x) => some (.ok (.d x) ρ)
  | some (.own _ _) => some (.ok (.s i) ρ)
  | _ => none := rfl
theorem ev_rv (i : Nat) : rv i ρ = match ρ[i]? with
  | some (.d x) => some (.ok x ρ)
  | some (.own false (.l xs)) => some (.ok (.list xs) (ρ.set i (.d (.list xs))))
  | _ => none := rfl
theorem ev_mBin (g : D → D → Option D) : mBin g ma mc ρ = bnd ma (fun a => bnd mc fun b => bnd (opnd a) fun x => bnd (opnd b) fun y => lift (g x y)) ρ := rfl
theorem ev_mBinO (g : D → D → Option Oo) : mBinO g ma mc ρ = bnd ma (fun a => bnd mc fun b => bnd (opnd a) fun x => bnd (opnd b) fun y => lift (g x y)) ρ := rfl
theorem ev_dr : dr m ρ = match m ρ with
  | some (.ok x ρ1) => some (.ok (.d x) ρ1)
  | some (.exc c) => some (.exc c)
  | none => none := by
  unfold dr bnd
  cases m ρ with
  | none => rfl
  | some z => cases z with
    | exc c => rfl
    | ok a ρ1 => rfl
theorem ev_dz : dz m ρ = match m ρ with
  | some (.ok x ρ1) => some (.ok (.d x) ρ1)
  | some (.exc c) => some (.exc c)
  | none => none := by
  unfold dz bnd
  cases m ρ with
  | none => rfl
  | some z => cases z with
    | exc c => rfl
    | ok a ρ1 => rfl
theorem ev_doz : doz mo ρ = match mo ρ with
  | some (.ok x ρ1) => some (.ok (.own false x) ρ1)
  | some (.exc c) => some (.exc c)
  | none => none := by
  unfold doz bnd
  cases mo ρ with
  | none => rfl
  | some z => cases z with
    | exc c => rfl
    | ok a ρ1 => rfl
theorem ev_ode : ode mo ρ = match mo ρ with
  | some (.ok (.l xs) ρ1) => some (.ok (.list xs) ρ1)
  | some (.exc c) => some (.exc c)
  | _ => none := by
  unfold ode bnd
  cases mo ρ with
  | none => rfl
  | some z => cases z with
    | exc c => rfl
    | ok a ρ1 => cases a <;> rfl
theorem ev_ac : ac ma ms ρ = bnd ma (fun x => bnd ms fun xs => DL.ret (x :: xs)) ρ := rfl
theorem ev_mB1 (g : List D → Option D) : mB1 g ms ρ = bnd ms (fun as => bnd (opnds as) fun xs => lift (g xs)) ρ := rfl
theorem ev_mBO (g : List D → Option Oo) : mBO g ms ρ = bnd ms (fun as => bnd (opnds as) fun xs => lift (g xs)) ρ := rfl
theorem ev_opndsL (as : List Arg) : opnds as ρ = match rsvs ρ as with
  | some x => some (.ok x ρ)
  | none => none := rfl
theorem ev_rsvs0 : rsvs ρ [] = some [] := rfl
theorem ev_rsvs1 (a : Arg) (r : List Arg) : rsvs ρ (a :: r) = match rsv ρ a with
    | some x => match rsvs ρ r with
      | some l => some (x :: l)
      | none => none
    | none => none := rfl
theorem ev_rsvd (x : D) : rsv ρ (.d x) = some x := rfl
theorem ev_rsvs (i : Nat) : rsv ρ (.s i) = (ρ[i]?).bind slD := rfl
theorem ev_bindS (x : α) (k : α → Option β) : (some x).bind k = k x := rfl
theorem ev_mTrue : mTrue m ρ = match m ρ with
  | some (.ok (.bool b) ρ1) => some (.ok b ρ1)
  | some (.exc c) => some (.exc c)
  | _ => none := by
  unfold mTrue bnd
  cases m ρ with
  | none => rfl
  | some z => cases z with
    | exc c => rfl
    | ok a ρ1 => cases a <;> rfl
theorem ev_mB : mB mb ρ = match mb ρ with
  | some (.ok b ρ1) => some (.ok (.bool b) ρ1)
  | some (.exc c) => some (.exc c)
  | none => none := by
  unfold mB bnd
  cases mb ρ with
  | none => rfl
  | some z => cases z with
    | exc c => rfl
    | ok a ρ1 => rfl
theorem ev_mAnd : mAnd mb nb ρ = match mb ρ with
  | some (.ok true ρ1) => nb ρ1
  | some (.ok false ρ1) => some (.ok false ρ1)
  | some (.exc c) => some (.exc c)
  | none => none := by
  unfold mAnd bnd
  cases mb ρ with
  | none => rfl
  | some z => cases z with
    | exc c => rfl
    | ok a ρ1 => cases a <;> rfl
theorem ev_mOr : mOr mb nb ρ = match mb ρ with
  | some (.ok true ρ1) => some (.ok true ρ1)
  | some (.ok false ρ1) => nb ρ1
  | some (.exc c) => some (.exc c)
  | none => none := by
  unfold mOr bnd
  cases mb ρ with
  | none => rfl
  | some z => cases z with
    | exc c => rfl
    | ok a ρ1 => cases a <;> rfl
theorem ev_mNot : mNot mb ρ = match mb ρ with
  | some (.ok b ρ1) => some (.ok (!b) ρ1)
  | some (.exc c) => some (.exc c)
  | none => none := by
  unfold mNot bnd
  cases mb ρ with
  | none => rfl
  | some z => cases z with
    | exc c => rfl
    | ok a ρ1 => rfl
theorem ev_mIf (m n : Mo α) : mIf mb m n ρ = match mb ρ with
  | some (.ok true ρ1) => m ρ1
  | some (.ok false ρ1) => n ρ1
  | some (.exc c) => some (.exc c)
  | none => none := by
  unfold mIf bnd
  cases mb ρ with
  | none => rfl
  | some z => cases z with
    | exc c => rfl
    | ok a ρ1 => cases a <;> rfl
theorem ev_mTup : mTup ms ρ = bnd ms (fun as => lift (match argsD as with
  | some xs => if xs.length ≤ sizeLine then some (.tuple xs) else none
  | none => none)) ρ := rfl
theorem ev_mLst : mLst ms ρ = bnd ms (fun as => lift (match argsD as with
  | some xs => if xs.length ≤ sizeLine then some (.l xs) else none
  | none => none)) ρ := rfl
theorem ev_argsD0 : argsD [] = some [] := rfl
theorem ev_argsD1 (x : D) (r : List Arg) : argsD (.d x :: r) = match argsD r with
    | some l => some (x :: l)
    | none => none := rfl
theorem ev_vals : vals ms ρ = bnd ms (fun as => lift (argsD as)) ρ := rfl
theorem ev_mRet : mRet mz ρ = match mz ρ with
  | some (.ok x ρ1) => some (.ok (.rt x) ρ1)
  | some (.exc c) => some (.exc c)
  | none => none := by
  unfold mRet bnd
  cases mz ρ with
  | none => rfl
  | some z => cases z with
    | exc c => rfl
    | ok a ρ1 => rfl
theorem ev_sto (i : Nat) (s : Sl) : sto i s ρ = match ρ[i]? with
  | some (.own true _) => none
  | some _ => some (.ok .nx (ρ.set i s))
  | none => none := rfl
theorem ev_sto2 (i : Nat) (x : D) : sto2 i x ρ = sto i (.d x) ρ := rfl
theorem ev_mPar2 (i j : Nat) (m : Mo (List D)) : mPar2 i j m ρ = match m ρ with
  | some (.ok [x, y] ρ1) => mSeq (sto2 i x) (sto2 j y) ρ1
  | some (.exc c) => some (.exc c)
  | _ => none := by
  unfold mPar2 bnd
  cases m ρ with
  | none => rfl
  | some z => cases z with
    | exc c => rfl
    | ok a ρ1 => match a with
      | [] => rfl
      | [_] => rfl
      | [_, _] => rfl
      | _ :: _ :: _ :: _ => rfl
theorem ev_mPar3 (i j l : Nat) (m : Mo (List D)) : mPar3 i j l m ρ = match m ρ with
  | some (.ok [x, y, z] ρ1) => mSeq (sto2 i x) (mSeq (sto2 j y) (sto2 l z)) ρ1
  | some (.exc c) => some (.exc c)
  | _ => none := by
  unfold mPar3 bnd
  cases m ρ with
  | none => rfl
  | some z => cases z with
    | exc c => rfl
    | ok a ρ1 => match a with
      | [] => rfl
      | [_] => rfl
      | [_, _] => rfl
      | [_, _, _] => rfl
      | _ :: _ :: _ :: _ :: _ => rfl
theorem ev_gN (i : Nat) (x : D) : gN i x ρ = match ρ[i]? with
  | some (.own true _) => none
  | some _ => some (.ok () (ρ.set i (.d x)))
  | none => none := rfl
theorem ev_gTt (gs : List (D → Mo Unit)) (xs : List D) : gT gs (.tuple xs) = tgtS gs xs := rfl
theorem ev_gTl (gs : List (D → Mo Unit)) (xs : List D) : gT gs (.list xs) = tgtS gs xs := rfl
theorem ev_tgt0 : tgtS [] [] = DL.ret () := by unfold tgtS; rfl
theorem ev_tgt1 (g : D → Mo Unit) (gs : List (D → Mo Unit)) (x : D) (xs : List D) : tgtS (g :: gs) (x :: xs) = bnd (g x) fun _ => tgtS gs xs := by rw [tgtS]
theorem ev_gF (g : D → Mo Unit) (x : D) : gF g x ρ = match g x ρ with
  | some (.ok () ρ') => some (.ok .nx ρ')
  | _ => none := rfl
theorem ev_fzd (x : D) : fz (.d x) = DL.ret x := rfl
theorem ev_fzo (b : Bool) (xs : List D) : fz (.own b (.l xs)) = DL.ret (.list xs) := rfl
theorem ev_mOwn : mOwn mz ρ = match mz ρ with
  | some (.ok (.own b o) ρ1) => some (.ok o ρ1)
  | some (.exc c) => some (.exc c)
  | _ => none := by
  unfold mOwn bnd
  cases mz ρ with
  | none => rfl
  | some z => cases z with
    | exc c => rfl
    | ok a ρ1 => cases a <;> rfl
theorem ev_mOut (i : Nat) : mOut i ρ = match ρ[i]? with
  | some (.own false o) => some (.ok (.own false o) (ρ.set i .un))
  | _ => none := rfl
theorem ev_mIsI (T : String) : mIsI T ma ρ = bnd ma (fun a => bnd (opnd a) fun x => lift (match x with
  | .dict _ => none
  | x => some (.bool (isI T x)))) ρ := rfl
theorem ev_mNeg : mNeg ma ρ = bnd ma (fun a => bnd (opnd a) fun x => lift (opNeg x)) ρ := rfl
theorem ev_opNeg (i : Int) : opNeg (.int i) = some (.int (-i)) := rfl
theorem ev_mSl (ml mh : Mo (Option Int)) : mSl ma ml mh ρ = bnd ma (fun a => bnd ml fun lo => bnd mh fun hi => bnd (opnd a) fun x => lift (slcD x lo hi)) ρ := rfl
theorem ev_mSlL (ml mh : Mo (Option Int)) : mSlL ma ml mh ρ = bnd ma (fun a => bnd ml fun lo => bnd mh fun hi => bnd (opnd a) fun x => lift (slcL x lo hi)) ρ := rfl
theorem ev_slcT (xs : List D) (lo hi : Option Int) : slcD (.tuple xs) lo hi = some (.tuple (cutL xs lo hi)) := rfl
theorem ev_slcL (xs : List D) (lo hi : Option Int) : slcL (.list xs) lo hi = some (.l (cutL xs lo hi)) := rfl
theorem ev_mPart : mPart m ρ = match m ρ with
  | some (.ok (.int i) ρ1) => some (.ok (some i) ρ1)
  | some (.exc c) => some (.exc c)
  | _ => none := by
  unfold mPart bnd
  cases m ρ with
  | none => rfl
  | some z => cases z with
    | exc c => rfl
    | ok a ρ1 => cases a <;> rfl
theorem ev_mRev : mRev ma ρ = bnd ma (fun a => bnd (opnd a) fun x => match x with | .list xs => DL.ret (.l xs.reverse) | _ => fail) ρ := rfl
theorem ev_mStr1 (g : Str → D → Option D) : mStr1 g m ma ρ = match m ρ with
  | some (.ok (.str a) ρ1) => bnd ma (fun b => bnd (opnd b) fun y => lift (g a y)) ρ1
  | some (.exc c) => some (.exc c)
  | _ => none := by
  unfold mStr1 bnd
  cases m ρ with
  | none => rfl
  | some z => cases z with
    | exc c => rfl
    | ok a ρ1 => cases a <;> rfl
theorem ev_mChain (g g' : D → D → Option D) (m1 m2 m3 : Mo Arg) : mChain g g' m1 m2 m3 ρ = bnd m1 (fun a => bnd m2 fun b => bnd (opnd a) fun x => bnd (opnd b) fun y => bnd (lift (g x y)) fun z => match z with
  | .bool true => bnd m3 fun c => bnd (opnd b) fun y => bnd (opnd c) fun w => lift (g' y w)
  | .bool false => DL.ret (.bool false)
  | _ => fail) ρ := rfl
theorem ev_mFun (n k : Nat) (as : Fr) : mFun n k f as = match f (as ++ List.replicate k .un) with
  | none => none
  | some (.exc c) => some (.exc c)
  | some (.ok .nx ρ') => some (.ok (.d .none) (mask n ρ'))
  | some (.ok (.rt s) ρ') => some (.ok s (mask n ρ')) := rfl
theorem ev_mask0 : mask 0 ρ = [] := by cases ρ <;> rfl
theorem ev_mask1 (n : Nat) (s : Sl) : mask (n + 1) (s :: ρ) = mk1 s :: mask n ρ := rfl
theorem ev_mk1o (o : Oo) : mk1 (.own true o) = .own true o := rfl
theorem ev_mk1f (o : Oo) : mk1 (.own false o) = .un := rfl
theorem ev_mk1d (x : D) : mk1 (.d x) = .un := rfl
theorem ev_mk1u : mk1 .un = .un := rfl
theorem ev_mCall : mCall mz ms ρ = match ms ρ with
  | some (.ok as ρ1) => (match lend ρ1 as with
    | none => none
    | some fr => match mz fr with
      | none => none
      | some (.exc c) => some (.exc c)
      | some (.ok r fr') => some (.ok r (back ρ1 as fr')))
  | some (.exc c) => some (.exc c)
  | none => none := by
  unfold mCall bnd
  cases ms ρ with
  | none => rfl
  | some z => cases z with
    | exc c => rfl
    | ok a ρ1 => rfl
theorem ev_lend0 : lend ρ [] = some [] := rfl
theorem ev_lend1 (x : D) (r : List Arg) : lend ρ (.d x :: r) = match lend ρ r with
    | some l => some (.d x :: l)
    | none => none := rfl
theorem ev_lend2 (i : Nat) (r : List Arg) : lend ρ (.s i :: r) = match lend ρ r with
    | some l => match ρ[i]? with
      | some (.own _ o) => if noS i r = true then some (.own true o :: l) else none
      | _ => none
    | none => none := rfl
theorem ev_noS0 (i : Nat) : noS i [] = true := rfl
theorem ev_noSd (i : Nat) (x : D) (r : List Arg) : noS i (.d x :: r) = noS i r := rfl
theorem ev_noSs (i j : Nat) (r : List Arg) : noS i (.s j :: r) = (j != i && noS i r) := rfl
theorem ev_back (as : List Arg) (fr : Fr) : back ρ as fr = match anyS as with
  | true => backF as fr 0 ρ
  | false => ρ := rfl
theorem ev_anyS0 : anyS [] = false := rfl
theorem ev_anySd (x : D) (r : List Arg) : anyS (.d x :: r) = anyS r := rfl
theorem ev_anySs (i : Nat) (r : List Arg) : anyS (.s i :: r) = true := rfl
theorem ev_backF0 (as : List Arg) (fr : Fr) (i : Nat) : backF as fr i [] = [] := rfl
theorem ev_backF1 (as : List Arg) (fr : Fr) (i : Nat) (s : Sl) : backF as fr i (s :: ρ) = back1 as fr i s :: backF as fr (i + 1) ρ := rfl
theorem ev_back1o (as : List Arg) (fr : Fr) (i : Nat) (b : Bool) (o : Oo) : back1 as fr i (.own b o) = match got i as fr with
    | some u => .own b u
    | none => .own b o := rfl
theorem ev_back1d (as : List Arg) (fr : Fr) (i : Nat) (x : D) : back1 as fr i (.d x) = .d x := rfl
theorem ev_back1u (as : List Arg) (fr : Fr) (i : Nat) : back1 as fr i .un = .un := rfl
theorem ev_got0 (i : Nat) (fr : Fr) : got i [] fr = none := by cases fr <;> rfl
theorem ev_gotd (i : Nat) (x : D) (as : List Arg) (s : Sl) (fr : Fr) : got i (.d x :: as) (s :: fr) = got i as fr := rfl
theorem ev_gots (i j : Nat) (as : List Arg) (b : Bool) (o : Oo) (fr : Fr) : got i (.s j :: as) (.own b o :: fr) = if j = i then some o else got i as fr := rfl
theorem ev_mItems : mItems m ρ = bnd m (fun x => lift (itemsOf x)) ρ := rfl
theorem ev_itemsL (xs : List D) : itemsOf (.list xs) = some xs := rfl
theorem ev_itemsT (xs : List D) : itemsOf (.tuple xs) = some xs := rfl
theorem ev_mSigns : mSigns m ρ = match m ρ with
  | some (.ok (.str z) ρ1) => some (.ok (signs z) ρ1)
  | some (.exc c) => some (.exc c)
  | _ => none := by
  unfold mSigns bnd
  cases m ρ with
  | none => rfl
  | some z => cases z with
    | exc c => rfl
    | ok a ρ1 => cases a <;> rfl
theorem ev_mMeth (i : Nat) (g : List D → Oo → Option (D × Oo)) : mMeth i g ms ρ = bnd (chkL i) (fun _ => bnd ms fun as => bnd (lift (argsD as)) fun ds => updO i (g ds)) ρ := rfl
theorem ev_chkL (i : Nat) : chkL i ρ = match ρ[i]? with
  | some (.own _ (.l _)) => some (.ok () ρ)
  | _ => none := rfl
theorem ev_updO (i : Nat) (g : Oo → Option (D × Oo)) : updO i g ρ = match ρ[i]? with
  | some (.own b o) => match g o with
    | some (z, o') => some (.ok z (ρ.set i (.own b o')))
    | none => none
  | _ => none := rfl
theorem ev_gAppend (x : D) (xs : List D) : gAppend [x] (.l xs) = if xs.length < sizeLine then some (.none, .l (xs ++ [x])) else none := rfl
theorem ev_mSetIx (i : Nat) (me mi : Mo D) : mSetIx i me mi ρ = bnd me (fun v => bnd (chkL i) fun _ => bnd mi fun k => bnd (updO i (gSet v k)) fun _ => DL.ret .nx) ρ := rfl
theorem ev_gSet (v : D) (j : Int) (xs : List D) : gSet v (.int j) (.l xs) = match ixN xs.length j with
      | some n => some (.none, .l (xs.set n v))
      | none => none := rfl
theorem ev_mRng (g : List D → Option (List D)) : mRng g ms ρ = bnd ms (fun as => bnd (opnds as) fun xs => lift (g xs)) ρ := rfl
theorem ev_rg1 (j : Int) : rg1 [.int j] = if -(2 ^ 62) ≤ j ∧ j < 2 ^ 62 then some (rangeL 0 j.toNat) else none := rfl
theorem ev_rg2 (i j : Int) : rg2 [.int i, .int j] = if -(2 ^ 62) ≤ i ∧ i < 2 ^ 62 ∧ -(2 ^ 62) ≤ j ∧ j < 2 ^ 62 then some (rangeL i (j - i).toNat) else none := rfl
theorem ev_mFor (mi : Mo (List D)) (g : D → Mo Unit) : mFor mi g f ρ = bnd mi (fun xs => forL g f xs) ρ := rfl
theorem ev_raise (c : Str) : mRaise c ρ = some (.exc c) := rfl
/-! data -/
theorem ev_cI (g : Int → Int → Bool) (i j : Int) : cI g (.int i) (.int j) = some (.bool (g i j)) := rfl
theorem ev_add (i j : Int) : opAdd (.int i) (.int j) = some (.int (i + j)) := rfl
theorem ev_sub (i j : Int) : opSub (.int i) (.int j) = some (.int (i - j)) := rfl
theorem ev_abs (i : Int) : bAbs [.int i] = some (.int (if i < 0 then -i else i)) := rfl
theorem ev_max (i j : Int) : bMax [.int i, .int j] = some (.int (if j > i then j else i)) := rfl
theorem ev_min (i j : Int) : bMin [.int i, .int j] = some (.int (if j < i then j else i)) := rfl
theorem ev_inti (i : Int) : bInt [.int i] = some (.int i) := rfl
theorem ev_intb (b : Bool) : bInt [.bool b] = some (.int (if b then 1 else 0)) := rfl
theorem ev_lenL (xs : List D) : bLen [.list xs] = some (.int xs.length) := rfl
theorem ev_lenT (xs : List D) : bLen [.tuple xs] = some (.int xs.length) := rfl
theorem ev_lenS (ns : List Int) : bLen [scrD ns] = some (.int ns.length) := by
  show some (PyData.int ((ns.map PyData.int).length : Int)) = _
  rw [List.length_map]
theorem ev_tupL (xs : List D) : bTuple [.list xs] = some (.tuple xs) := rfl
theorem ev_tupT (xs : List D) : bTuple [.tuple xs] = some (.tuple xs) := rfl
theorem ev_lstL (xs : List D) : bList [.list xs] = some (.l xs) := rfl
theorem ev_lstT (xs : List D) : bList [.tuple xs] = some (.l xs) := rfl
theorem ev_ixT (xs : List D) (i : Int) : ixD (.tuple xs) (.int i) = atI xs i := rfl
theorem ev_ixL (xs : List D) (i : Int) : ixD (.list xs) (.int i) = atI xs i := rfl
theorem ev_ixS (ns : List Int) (i : Int) : ixD (scrD ns) (.int i) = atI (ns.map PyData.int) i := rfl
theorem at_nat {α : Type} (xs : List α) (k : Nat) : atI xs (k : Int) = xs[k]? := by
  unfold atI ixN
  rw [if_pos (by omega)]
  by_cases h : k < xs.length
  · rw [if_pos (by omega)]; simp
  · rw [if_neg (by omega)]; simp; omega
theorem ev_at0 (xs : List D) : atI xs 0 = xs[0]? := at_nat xs 0
theorem ev_at1 (xs : List D) : atI xs 1 = xs[1]? := at_nat xs 1
theorem ev_at2 (xs : List D) : atI xs 2 = xs[2]? := at_nat xs 2
theorem ev_at3 (xs : List D) : atI xs 3 = xs[3]? := at_nat xs 3
theorem ev_at4 (xs : List D) : atI xs 4 = xs[4]? := at_nat xs 4
theorem ev_at5 (xs : List D) : atI xs 5 = xs[5]? := at_nat xs 5
theorem ev_at6 (xs : List D) : atI xs 6 = xs[6]? := at_nat xs 6
theorem ev_at7 (xs : List D) : atI xs 7 = xs[7]? := at_nat xs 7
theorem ev_ixN0 (n : Nat) : ixN (n + 1) 0 = some 0 := by unfold ixN; simp
theorem ev_ixN1 (n : Nat) : ixN (n + 2) 1 = some 1 := by unfold ixN; simp; omega
theorem ev_is (d : D) : opIs d .none = some (.bool (isN d)) := by cases d <;> rfl
theorem ev_isnot (d : D) : opIsNot d .none = some (.bool (!isN d)) := by cases d <;> rfl
theorem ev_isb (a b : Bool) : opIs (.bool a) (.bool b) = some (.bool (decide (a = b))) := rfl
theorem ev_isnotb (a b : Bool) : opIsNot (.bool a) (.bool b) = some (.bool (!decide (a = b))) := rfl
theorem ev_addL (xs ys : List D) : opAddL (.list xs) (.list ys) = if xs.length + ys.length ≤ sizeLine then some (.l (xs ++ ys)) else none := rfl
theorem ev_size (n : Nat) (h : n ≤ 1000) : n ≤ sizeLine := size_le (by omega)
end
end DL
end
section
namespace DL
open PySem hiding ret
open PySem.Spec L2 TL
open PyProof.Rows hiding St

theorem shared_loop : ∀ (n : Nat) (x y : Nat), y ≤ n → mWhile (mTrue (mBin opGt (ra 1) (dr (DL.ret (.int 0))))) (mPar2 0 1 (vals (ac (dr (rv 1)) (ac (dr (mBin opMod (ra 0) (ra 1))) (DL.ret []))))) [.d (.int x), .d (.int y)] = some (.ok .nx [.d (.int (Nat.gcd x y)), .d (.int 0)])
  | n, x, 0, _ => by
    rw [Nat.gcd_zero_right]
    exact mWhile_ff rfl
  | 0, x, y + 1, h => by omega
  | n + 1, x, y + 1, h => by
    have hm : x % (y + 1) < y + 1 := Nat.mod_lt x (Nat.succ_pos y)
    have ih := shared_loop n (y + 1) (x % (y + 1)) (by omega)
    have e : Nat.gcd x (y + 1) = Nat.gcd (y + 1) (x % (y + 1)) := by rw [Nat.gcd_comm x, Nat.gcd_rec, Nat.gcd_comm]
    rw [e]
    have h0 : decide ((0 : Int) < ((y + 1 : Nat) : Int)) = true := decide_eq_true (by omega)
    have h1 : Int.fmod (x : Int) ((y + 1 : Nat) : Int) = ((x % (y + 1) : Nat) : Int) := by
      rw [Int.fmod_eq_emod_of_nonneg _ (by omega)]; rfl
    have h2 : opMod (.int x) (.int ((y + 1 : Nat) : Int)) = some (.int ((x % (y + 1) : Nat) : Int)) := by rw [opMod_int (by omega), h1]
    refine mWhile_tt (ρ1 := [.d (.int x), .d (.int (y + 1 : Nat))]) (ρ2 := [.d (.int ((y + 1 : Nat) : Int)), .d (.int ((x % (y + 1) : Nat) : Int))]) ?_ ?_ ih
    · generalize ((y + 1 : Nat) : Int) = k at *
      simp only [ev_mTrue, ev_mBin, ev_bnd, ev_ra, List.getElem?_cons_zero, List.getElem?_cons_succ, ev_dr, ev_ret, ev_opnd, ev_cI, ev_lift, opGt, h0]
    · generalize ((y + 1 : Nat) : Int) = k at *
      simp only [ev_mPar2, ev_vals, ev_ac, ev_mBin, ev_bnd, ev_ra, ev_rv, List.getElem?_cons_zero, List.getElem?_cons_succ, ev_dr, ev_ret, ev_opnd, ev_lift, h2, ev_argsD1, ev_argsD0, mSeq_def, ev_sto2, ev_sto, List.set_cons_zero, List.set_cons_succ]
def gcd2 (a b : Int) : Nat := Nat.gcd a.natAbs b.natAbs
def G3 (a b c : Int) : Nat := Nat.gcd (Nat.gcd a.natAbs b.natAbs) c.natAbs
theorem natAbs_eq (a : Int) : (if a < 0 then -a else a) = ((a.natAbs : Nat) : Int) := by split <;> omega
/-- the greatest whole number that divides two: the body of shared -/
theorem shared_body (a b : Int) : (mSeq (mPar2 0 1 (vals (ac (dr (mB1 bAbs (ac (ra 0) (DL.ret [])))) (ac (dr (mB1 bAbs (ac (ra 1) (DL.ret [])))) (DL.ret [])))))
    (mSeq (mWhile (mTrue (mBin opGt (ra 1) (dr (DL.ret (.int 0))))) (mPar2 0 1 (vals (ac (dr (rv 1)) (ac (dr (mBin opMod (ra 0) (ra 1))) (DL.ret []))))))
    (mRet (dz (rv 0))))) [.d (.int a), .d (.int b)] = some (.ok (.rt (.d (.int (gcd2 a b)))) [.d (.int (gcd2 a b)), .d (.int 0)]) := by
  have e1 : (mPar2 0 1 (vals (ac (dr (mB1 bAbs (ac (ra 0) (DL.ret [])))) (ac (dr (mB1 bAbs (ac (ra 1) (DL.ret [])))) (DL.ret []))))) [.d (.int a), .d (.int b)] = some (.ok .nx [.d (.int ((a.natAbs : Nat) : Int)), .d (.int ((b.natAbs : Nat) : Int))]) := by
    simp only [ev_mPar2, ev_vals, ev_ac, ev_mB1, ev_bnd, ev_ra, ev_rv, List.getElem?_cons_zero, List.getElem?_cons_succ, ev_dr, ev_ret, ev_opndsL, ev_rsvs0, ev_rsvs1, ev_rsvd, ev_abs, natAbs_eq, ev_lift, ev_argsD1, ev_argsD0, mSeq_def, ev_sto2, ev_sto, List.set_cons_zero, List.set_cons_succ]
  rw [mSeq_nx e1, mSeq_nx (shared_loop _ _ _ (Nat.le_refl _))]
  rfl
theorem shared_fun (a b : Int) {m : Mo Fl} (h : m = (mSeq (mPar2 0 1 (vals (ac (dr (mB1 bAbs (ac (ra 0) (DL.ret [])))) (ac (dr (mB1 bAbs (ac (ra 1) (DL.ret [])))) (DL.ret [])))))
    (mSeq (mWhile (mTrue (mBin opGt (ra 1) (dr (DL.ret (.int 0))))) (mPar2 0 1 (vals (ac (dr (rv 1)) (ac (dr (mBin opMod (ra 0) (ra 1))) (DL.ret []))))))
    (mRet (dz (rv 0)))))) : mFun 2 0 m [.d (.int a), .d (.int b)] = some (.ok (.d (.int (gcd2 a b))) [.un, .un]) := by
  subst h
  rw [ev_mFun]
  simp only [List.replicate, List.append_nil, shared_body]
  rfl
/-- numbers as data -/
def num (x : Int × Int × Int) : D := .tuple [.int x.1, .int x.2.1, .int x.2.2]
def IsN (x : Int × Int × Int) : Prop := 0 < x.2.2 ∧ G3 x.1 x.2.1 x.2.2 = 1
/-- in lowest terms -/
def lowK (a b c : Int) : Int := if c < 0 then -(G3 a b c : Int) else (G3 a b c : Int)
def lowT (a b c : Int) : Int × Int × Int := (a.fdiv (lowK a b c), b.fdiv (lowK a b c), c.fdiv (lowK a b c))
theorem G3_pos {a b c : Int} (hc : c ≠ 0) : 0 < G3 a b c := Nat.gcd_pos_of_pos_right _ (by omega)
theorem G3_dvd (a b c : Int) : (G3 a b c : Int) ∣ a ∧ (G3 a b c : Int) ∣ b ∧ (G3 a b c : Int) ∣ c := by
  refine ⟨?_, ?_, ?_⟩
  · exact Int.ofNat_dvd_left.mpr (Nat.dvd_trans (Nat.gcd_dvd_left _ _) (Nat.gcd_dvd_left _ _))
  · exact Int.ofNat_dvd_left.mpr (Nat.dvd_trans (Nat.gcd_dvd_left _ _) (Nat.gcd_dvd_right _ _))
  · exact Int.ofNat_dvd_left.mpr (Nat.gcd_dvd_right _ _)
theorem lowK_ne {a b c : Int} (hc : c ≠ 0) : lowK a b c ≠ 0 := by
  have := G3_pos (a := a) (b := b) hc
  unfold lowK; split <;> omega
theorem lowK_abs (a b c : Int) : (lowK a b c).natAbs = G3 a b c := by unfold lowK; split <;> simp
theorem lowK_dvd (a b c : Int) : lowK a b c ∣ a ∧ lowK a b c ∣ b ∧ lowK a b c ∣ c := by
  obtain ⟨h1, h2, h3⟩ := G3_dvd a b c
  unfold lowK
  split
  · exact ⟨Int.neg_dvd.mpr h1, Int.neg_dvd.mpr h2, Int.neg_dvd.mpr h3⟩
  · exact ⟨h1, h2, h3⟩
theorem lowT_mul {a b c : Int} (hc : c ≠ 0) : a = lowK a b c * (lowT a b c).1 ∧ b = lowK a b c * (lowT a b c).2.1 ∧ c = lowK a b c * (lowT a b c).2.2 := by
  obtain ⟨h1, h2, h3⟩ := lowK_dvd a b c
  exact ⟨(Int.mul_fdiv_cancel' h1).symm, (Int.mul_fdiv_cancel' h2).symm, (Int.mul_fdiv_cancel' h3).symm⟩
theorem lowT_isN {a b c : Int} (hc : c ≠ 0) : IsN (lowT a b c) := by
  obtain ⟨h1, h2, h3⟩ := lowT_mul (a := a) (b := b) hc
  have hk := G3_pos (a := a) (b := b) hc
  generalize hx : (lowT a b c).1 = x at *
  generalize hy : (lowT a b c).2.1 = y at *
  generalize hz : (lowT a b c).2.2 = z at *
  have ea : a.natAbs = G3 a b c * x.natAbs := by
    have := congrArg Int.natAbs h1
    rw [Int.natAbs_mul, lowK_abs] at this; exact this
  have eb : b.natAbs = G3 a b c * y.natAbs := by
    have := congrArg Int.natAbs h2
    rw [Int.natAbs_mul, lowK_abs] at this; exact this
  have ec : c.natAbs = G3 a b c * z.natAbs := by
    have := congrArg Int.natAbs h3
    rw [Int.natAbs_mul, lowK_abs] at this; exact this
  refine ⟨?_, ?_⟩
  · rw [hz]
    have hz0 : z ≠ 0 := by
      intro q; subst q; simp at h3; exact hc h3
    by_cases hneg : c < 0
    · have e : lowK a b c = -(G3 a b c : Int) := by unfold lowK; rw [if_pos hneg]
      rw [e] at h3
      rcases Int.lt_or_lt_of_ne hz0 with q | q
      · have : 0 < -(G3 a b c : Int) * z := Int.mul_pos_of_neg_of_neg (by omega) q
        omega
      · exact q
    · have e : lowK a b c = (G3 a b c : Int) := by unfold lowK; rw [if_neg hneg]
      rw [e] at h3
      rcases Int.lt_or_lt_of_ne hz0 with q | q
      · have : (G3 a b c : Int) * z < 0 := Int.mul_neg_of_pos_of_neg (by omega) q
        omega
      · exact q
  · rw [hx, hy, hz]
    have e : G3 a b c = Nat.gcd (Nat.gcd a.natAbs b.natAbs) c.natAbs := rfl
    have e2 : Nat.gcd (Nat.gcd a.natAbs b.natAbs) c.natAbs = G3 a b c * G3 x y z := by
      rw [ea, eb, ec, Nat.gcd_mul_left, Nat.gcd_mul_left]; rfl
    rw [← e] at e2
    have : G3 a b c * G3 x y z = G3 a b c * 1 := by rw [← e2, Nat.mul_one]
    exact Nat.eq_of_mul_eq_mul_left hk this
theorem abs_le_of_mul {k x a : Int} (hk : k ≠ 0) (h : a = k * x) : x.natAbs ≤ a.natAbs := by
  rw [h, Int.natAbs_mul]
  exact Nat.le_mul_of_pos_left _ (by omega)
theorem lowT_le {a b c : Int} (hc : c ≠ 0) : (lowT a b c).1.natAbs ≤ a.natAbs ∧ (lowT a b c).2.1.natAbs ≤ b.natAbs ∧ (lowT a b c).2.2.natAbs ≤ c.natAbs := by
  obtain ⟨h1, h2, h3⟩ := lowT_mul (a := a) (b := b) hc
  have hk := lowK_ne (a := a) (b := b) hc
  exact ⟨abs_le_of_mul hk h1, abs_le_of_mul hk h2, abs_le_of_mul hk h3⟩
theorem G3_le {a b c : Int} (hc : c ≠ 0) : G3 a b c ≤ c.natAbs := Nat.le_of_dvd (by omega) (Nat.gcd_dvd_right _ _)
theorem lowK_div {a b c : Int} {n : Nat} (hc : c ≠ 0) (h : c.natAbs < 2 ^ n) (hn : n < 9000) (x : Int) : divOk x (lowK a b c) :=
  divOk_of (n := n) (lowK_ne hc) (by rw [lowK_abs]; exact Nat.lt_of_le_of_lt (G3_le hc) h) hn
/-- a number in lowest terms stays as it is -/
theorem lowT_self {x : Int × Int × Int} (h : IsN x) : lowT x.1 x.2.1 x.2.2 = x := by
  obtain ⟨h1, h2⟩ := h
  have e : lowK x.1 x.2.1 x.2.2 = 1 := by unfold lowK; rw [if_neg (by omega), h2]; rfl
  unfold lowT
  rw [e, Int.fdiv_one, Int.fdiv_one, Int.fdiv_one]
end DL
end
section
namespace DL
open PySem hiding ret
open PySem.Spec L2 TL
open PyProof.Rows hiding St

/-! ### comprehensions on literal lists -/
section
variable {ρ : Fr} {vs : List Nat} {g : D → Mo Unit} {c : Mo Bool} {e : Mo D} {mi : Mo (List D)}
theorem ev_compL0 (acc : List D) : compL vs g c e [] acc ρ = some (.ok acc ρ) := rfl
theorem ev_compL1 (x : D) (xs acc : List D) : compL vs g c e (x :: xs) acc ρ = match wipeF vs 0 ρ with
    | none => none
    | some ρw => match mTurn g c e x ρw with
      | some (.ok (some y) ρ4) => if acc.length < sizeLine then compL vs g c e xs (acc ++ [y]) (restF vs 0 ρ ρ4) else none
      | some (.ok none ρ4) => compL vs g c e xs acc (restF vs 0 ρ ρ4)
      | _ => none := rfl
theorem ev_mTurn (x : D) : mTurn g c e x ρ = match g x ρ with
  | some (.ok () ρ1) => bnd c (fun t => match t with
    | true => bnd e fun y => DL.ret (some y)
    | false => DL.ret none) ρ1
  | _ => none := rfl
theorem ev_mComp : mComp vs mi g c e ρ = bnd mi (fun xs => bnd (compL vs g c e xs []) fun l => DL.ret (.l l)) ρ := rfl
theorem ev_wipe0 (i : Nat) : wipeF vs i [] = some [] := rfl
theorem ev_wipe1 (i : Nat) (s : Sl) : wipeF vs i (s :: ρ) = match wipeF vs (i + 1) ρ with
    | none => none
    | some l => if vs.contains i = true then (if isOwn s = true then none else some (.un :: l)) else some (s :: l) := rfl
theorem ev_rest0 (i : Nat) (τ : Fr) : restF vs i [] τ = [] := by cases τ <;> rfl
theorem ev_rest1 (i : Nat) (s t : Sl) (τ : Fr) : restF vs i (s :: ρ) (t :: τ) = (if vs.contains i = true then s else t) :: restF vs (i + 1) ρ τ := rfl
theorem ev_isOwn0 : isOwn .un = false := rfl
theorem ev_isOwn1 (x : D) : isOwn (.d x) = false := rfl
theorem ev_con0 (i : Nat) : ([] : List Nat).contains i = false := rfl
theorem ev_con1 (i j : Nat) (r : List Nat) : (j :: r).contains i = (i == j || r.contains i) := List.contains_cons
end
theorem ev_all (xs : List D) : bAll [.list xs] = match boolsOf xs with
    | some ns => some (.bool (ns.all id))
    | none => none := rfl
theorem ev_any (xs : List D) : bAny [.list xs] = match boolsOf xs with
    | some ns => some (.bool (ns.any id))
    | none => none := rfl
theorem ev_bools0 : boolsOf [] = some [] := rfl
theorem ev_bools1 (b : Bool) (r : List D) : boolsOf (.bool b :: r) = match boolsOf r with
    | some l => some (b :: l)
    | none => none := rfl

/-! ### signs -/
theorem at_sign {l : List Nat} {c i : Nat} : StrLaws.At (mkS l) (mkS [c]) (mkS l).length i ↔ l[i]? = some c := StrLaws.subAt_one (mkS l) c i
theorem rfind_at {l : List Nat} {c i : Nat} (h : l[i]? = some c) (hn : c ∉ l.drop (i + 1)) : Txt.rfind (mkS l) (mkS [c]) = i := by
  rcases rfind_whole (mkS l) (mkS [c]) with ⟨_, h2⟩ | ⟨j, h1, h2, h3⟩
  · exact absurd (at_sign.mpr h) (h2 i)
  · rw [h1]
    have h2 := at_sign.mp h2
    have : ¬ j < i := fun q => h3 i q (at_sign.mpr h)
    have : ¬ i < j := fun q => hn (by
      rw [List.mem_iff_getElem?]
      exact ⟨j - (i + 1), by rw [List.getElem?_drop]; rw [show i + 1 + (j - (i + 1)) = j by omega]; exact h2⟩)
    have : i = j := by omega
    rw [this]
theorem rfind_no {l : List Nat} {c : Nat} (h : c ∉ l) : Txt.rfind (mkS l) (mkS [c]) = -1 := by
  rcases rfind_whole (mkS l) (mkS [c]) with ⟨h1, _⟩ | ⟨j, h1, h2, h3⟩
  · exact h1
  · exact absurd (List.mem_of_getElem? (at_sign.mp h2)) h
theorem signs_S (l : List Nat) : signs (mkS l) = l.map fun c => S [c] := rfl
theorem part_app {c : Nat} {a b : List Nat} (h : c ∉ a) : Txt.partition (mkS (a ++ c :: b)) (mkS [c]) = (mkS a, mkS [c], mkS b) := by
  have := partition_app (y := mkS [c]) (s := c) (S := []) rfl (a := mkS a) (b := mkS b) h
  rw [mkS_app, mkS_app] at this
  rwa [show a ++ c :: b = a ++ [c] ++ b by simp]
theorem part_no {c : Nat} {a : List Nat} (h : c ∉ a) : Txt.partition (mkS a) (mkS [c]) = (mkS a, mkS [], mkS []) :=
  partition_none (y := mkS [c]) (s := c) (S := []) rfl (a := mkS a) h
theorem sPart_eq {l : List Nat} {c : Nat} {p : Str × Str × Str} (h : Txt.partition (mkS l) (mkS [c]) = p) (hl : l.length ≤ sizeLine) : sPartition (mkS l) (S [c]) = some (.tuple [.str p.1, .str p.2.1, .str p.2.2]) := by
  show (if ((mkS [c]).length == 0) = false ∧ (mkS l).length ≤ sizeLine then some (PyData.tuple [.str (Txt.partition (mkS l) (mkS [c])).1, .str (Txt.partition (mkS l) (mkS [c])).2.1, .str (Txt.partition (mkS l) (mkS [c])).2.2]) else none) = _
  rw [h, mkS_len, mkS_len, if_pos ⟨rfl, hl⟩]
theorem sRfind_eq (l : List Nat) (c : Nat) : sRfind (mkS l) (S [c]) = some (.int (Txt.rfind (mkS l) (mkS [c]))) := rfl
theorem in_S (l : List Nat) (c : Nat) : opIn (S [c]) (S l) = some (.bool (decide (c ∈ l))) := rfl
theorem lit_0 : (PyData.str "") = S [] := rfl
theorem lit_r : (PyData.str "r") = S [114] := rfl
theorem lit_mr : (PyData.str "-r") = S [45, 114] := rfl
theorem lit_m : (PyData.str "-") = S [45] := rfl
theorem lit_p : (PyData.str "+") = S [43] := rfl
theorem lit_s : (PyData.str "/") = S [47] := rfl
theorem lit_o : (PyData.str "(") = S [40] := rfl
theorem lit_c : (PyData.str ")") = S [41] := rfl
theorem lit_z : (PyData.str "0") = S [48] := rfl
theorem lit_f : (PyData.str "0123456789") = S [48, 49, 50, 51, 52, 53, 54, 55, 56, 57] := rfl
end DL
end
section
set_option maxHeartbeats 4000000
namespace My
open PySem PySem.Spec L2 DL
open PyProof.Rows hiding St
def v_FIGURES : D := .str "0123456789"
def v_MOST_FIGURES : D := .int 40
noncomputable def b_is_whole : Mo Fl :=
    (mRet (dz (mB (mAnd (mTrue (mIsI "int" (ra 0))) (mNot (mTrue (mIsI "bool" (ra 0))))))))
noncomputable def d_is_whole : Mo Sl := mFun 1 0 b_is_whole
noncomputable def t_shared_1 : Mo Bool :=
    (mTrue (mBin opGt (ra 1) (dr (ret (.int 0)))))
noncomputable def w_shared_1 : Mo Fl :=
    (mPar2 0 1 (vals (ac (dr (rv 1)) (ac (dr (mBin opMod (ra 0) (ra 1))) (ret [])))))
noncomputable def l_shared_1 : Mo Fl :=
    (mWhile t_shared_1 w_shared_1)
noncomputable def b_shared : Mo Fl :=
    (mSeq (mPar2 0 1 (vals (ac (dr (mB1 bAbs (ac (ra 0) (ret [])))) (ac (dr (mB1 bAbs (ac (ra 1) (ret [])))) (ret [])))))
    (mSeq l_shared_1
    (mRet (dz (rv 0)))))
noncomputable def d_shared : Mo Sl := mFun 2 0 b_shared
noncomputable def e_is_number_1 : Mo D :=
    (bnd (mCall d_is_whole (ac (dr (rv 4)) (ret []))) fz)
noncomputable def q_is_number_1 : Mo Oo :=
    (mComp [4] (mItems (rv 0)) (gN 4) (ret true) e_is_number_1)
noncomputable def b_is_number : Mo Fl :=
    (mSeq (mIf (mOr (mNot (mTrue (mIsI "tuple" (ra 0)))) (mOr (mTrue (mBin opNe (dr (mB1 bLen (ac (ra 0) (ret [])))) (dr (ret (.int 3))))) (mNot (mTrue (mB1 bAll (ac (dr (ode q_is_number_1)) (ret []))))))) (mRet (dz (ret (.bool false)))) (ret .nx))
    (mSeq (bnd (rv 0) (gF (gT [(gN 1), (gN 2), (gN 3)])))
    (mRet (dz (mB (mAnd (mTrue (mBin opGe (ra 3) (dr (ret (.int 1))))) (mTrue (mBin opEq (dr (bnd (mCall d_shared (ac (dr (bnd (mCall d_shared (ac (dr (rv 1)) (ac (dr (rv 2)) (ret [])))) fz)) (ac (dr (rv 3)) (ret [])))) fz)) (dr (ret (.int 1)))))))))))
noncomputable def d_is_number : Mo Sl := mFun 1 4 b_is_number
noncomputable def b_root_text : Mo Fl :=
    (mSeq (mIf (mTrue (mBin opIn (ra 0) (dr (mTup (ac (dr (ret (.int 1))) (ac (dr (mNeg (dr (ret (.int 1))))) (ret []))))))) (mRet (dz (mIf (mTrue (mBin opGt (ra 0) (dr (ret (.int 0))))) (ret (.str "r")) (ret (.str "-r"))))) (ret .nx))
    (mRet (dz (mBin opAdd (dr (mB1 bStr (ac (ra 0) (ret [])))) (dr (ret (.str "r")))))))
noncomputable def d_root_text : Mo Sl := mFun 1 0 b_root_text
noncomputable def b_show_number : Mo Fl :=
    (mSeq (bnd (rv 0) (gF (gT [(gN 3), (gN 4), (gN 5)])))
    (mSeq (bnd (mIf (mTrue (mBin opEq (ra 5) (dr (ret (.int 1))))) (ret (.str "")) (mBin opAdd (dr (ret (.str "/"))) (dr (mB1 bStr (ac (ra 5) (ret [])))))) fun x => sto 1 (.d x))
    (mSeq (mIf (mTrue (mBin opEq (ra 4) (dr (ret (.int 0))))) (mRet (dz (mBin opAdd (dr (mB1 bStr (ac (ra 3) (ret [])))) (ra 1)))) (ret .nx))
    (mSeq (mIf (mTrue (mBin opEq (ra 3) (dr (ret (.int 0))))) (mRet (dz (mBin opAdd (dr (bnd (mCall d_root_text (ac (dr (rv 4)) (ret []))) fz)) (ra 1)))) (ret .nx))
    (mSeq (bnd (mBin opAdd (dr (mBin opAdd (dr (mB1 bStr (ac (ra 3) (ret [])))) (dr (mIf (mTrue (mBin opGt (ra 4) (dr (ret (.int 0))))) (ret (.str "+")) (ret (.str "")))))) (dr (bnd (mCall d_root_text (ac (dr (rv 4)) (ret []))) fz))) fun x => sto 2 (.d x))
    (mRet (dz (mIf (mTrue (mBin opEq (ra 5) (dr (ret (.int 1))))) (rv 2) (mBin opAdd (dr (mBin opAdd (dr (mBin opAdd (dr (ret (.str "("))) (ra 2))) (dr (ret (.str ")"))))) (ra 1))))))))))
noncomputable def d_show_number : Mo Sl := mFun 1 5 b_show_number
noncomputable def q_whole_of_1 : Mo Oo :=
    (mComp [2] (mSigns (rv 1)) (gN 2) (ret true) (mBin opIn (ra 2) (dr (ret v_FIGURES))))
noncomputable def b_whole_of : Mo Fl :=
    (mSeq (bnd (mIf (mTrue (mBin opEq (dr (mSl (ra 0) (ret none) (mPart (ret (.int 1))))) (dr (ret (.str "-"))))) (mSl (ra 0) (mPart (ret (.int 1))) (ret none)) (rv 0)) fun x => sto 1 (.d x))
    (mSeq (mIf (mOr (mTrue (mBin opEq (ra 1) (dr (ret (.str ""))))) (mOr (mTrue (mBin opGt (dr (mB1 bLen (ac (ra 1) (ret [])))) (dr (ret v_MOST_FIGURES)))) (mNot (mTrue (mB1 bAll (ac (dr (ode q_whole_of_1)) (ret []))))))) (mRet (dz (ret .none))) (ret .nx))
    (mRet (dz (mB1 bInt (ac (ra 0) (ret [])))))))
noncomputable def d_whole_of : Mo Sl := mFun 1 2 b_whole_of
noncomputable def b_roots_of : Mo Fl :=
    (mSeq (mIf (mTrue (mBin opIn (ra 0) (dr (mTup (ac (dr (ret (.str ""))) (ac (dr (ret (.str "+"))) (ac (dr (ret (.str "-"))) (ret [])))))))) (mRet (dz (mIf (mTrue (mBin opEq (ra 0) (dr (ret (.str "-"))))) (mNeg (dr (ret (.int 1)))) (ret (.int 1))))) (ret .nx))
    (mRet (mCall d_whole_of (ac (dr (mIf (mTrue (mBin opEq (dr (mSl (ra 0) (ret none) (mPart (ret (.int 1))))) (dr (ret (.str "+"))))) (mSl (ra 0) (mPart (ret (.int 1))) (ret none)) (rv 0))) (ret [])))))
noncomputable def d_roots_of : Mo Sl := mFun 1 0 b_roots_of
noncomputable def b_top_of : Mo Fl :=
    (mSeq (mIf (mTrue (mBin opNe (dr (mSl (ra 0) (mPart (mNeg (dr (ret (.int 1))))) (ret none))) (dr (ret (.str "r"))))) (mRet (dz (mTup (ac (dr (bnd (mCall d_whole_of (ac (dr (rv 0)) (ret []))) fz)) (ac (dr (ret (.int 0))) (ret [])))))) (ret .nx))
    (mSeq (bnd (mB1 bMax (ac (dr (mStr1 sRfind (rv 0) (dr (ret (.str "+"))))) (ac (dr (mStr1 sRfind (rv 0) (dr (ret (.str "-"))))) (ret [])))) fun x => sto 1 (.d x))
    (mSeq (mIf (mTrue (mBin opLt (ra 1) (dr (ret (.int 1))))) (mRet (dz (mTup (ac (dr (ret (.int 0))) (ac (dr (bnd (mCall d_roots_of (ac (dr (mSl (ra 0) (ret none) (mPart (mNeg (dr (ret (.int 1))))))) (ret []))) fz)) (ret [])))))) (ret .nx))
    (mRet (dz (mTup (ac (dr (bnd (mCall d_whole_of (ac (dr (mSl (ra 0) (ret none) (mPart (rv 1)))) (ret []))) fz)) (ac (dr (bnd (mCall d_roots_of (ac (dr (mSl (ra 0) (mPart (rv 1)) (mPart (mNeg (dr (ret (.int 1))))))) (ret []))) fz)) (ret [])))))))))
noncomputable def d_top_of : Mo Sl := mFun 1 1 b_top_of
noncomputable def b_number_in : Mo Fl :=
    (mSeq (bnd (mStr1 sPartition (rv 0) (dr (ret (.str "/")))) (gF (gT [(gN 2), (gN 3), (gN 4)])))
    (mSeq (mIf (mAnd (mTrue (mBin opEq (dr (mSl (ra 2) (ret none) (mPart (ret (.int 1))))) (dr (ret (.str "("))))) (mTrue (mBin opEq (dr (mSl (ra 2) (mPart (mNeg (dr (ret (.int 1))))) (ret none))) (dr (ret (.str ")")))))) (bnd (mSl (ra 2) (mPart (ret (.int 1))) (mPart (mNeg (dr (ret (.int 1)))))) fun x => sto 2 (.d x)) (ret .nx))
    (mSeq (bnd (bnd (mCall d_top_of (ac (dr (rv 2)) (ret []))) fz) (gF (gT [(gN 5), (gN 6)])))
    (mSeq (bnd (mIf (mTrue (mBin opEq (ra 3) (dr (ret (.str "/"))))) (bnd (mCall d_whole_of (ac (dr (rv 4)) (ret []))) fz) (ret (.int 1))) fun x => sto 1 (.d x))
    (mSeq (mIf (mOr (mTrue (mBin opIs (ra 5) (dr (ret .none)))) (mOr (mTrue (mBin opIs (ra 6) (dr (ret .none)))) (mOr (mTrue (mBin opIs (ra 1) (dr (ret .none)))) (mNot (mTrue (bnd (mCall d_is_number (ac (dr (mTup (ac (dr (rv 5)) (ac (dr (rv 6)) (ac (dr (rv 1)) (ret [])))))) (ret []))) fz)))))) (mRet (dz (ret .none))) (ret .nx))
    (mRet (dz (mTup (ac (dr (rv 5)) (ac (dr (rv 6)) (ac (dr (rv 1)) (ret []))))))))))))
noncomputable def d_number_in : Mo Sl := mFun 1 6 b_number_in
noncomputable def b_number_by : Mo Fl :=
    (mSeq (bnd (bnd (mCall d_number_in (ac (dr (rv 0)) (ret []))) fz) fun x => sto 1 (.d x))
    (mRet (dz (mIf (mAnd (mTrue (mBin opIsNot (ra 1) (dr (ret .none)))) (mTrue (mBin opEq (dr (bnd (mCall d_show_number (ac (dr (rv 1)) (ret []))) fz)) (ra 0)))) (rv 1) (ret .none)))))
noncomputable def d_number_by : Mo Sl := mFun 1 1 b_number_by
noncomputable def b_read_number : Mo Fl :=
    (mSeq (bnd (mIf (mTrue (mIsI "str" (ra 0))) (bnd (mCall d_number_by (ac (dr (rv 0)) (ret []))) fz) (ret .none)) fun x => sto 1 (.d x))
    (mSeq (mIf (mTrue (mBin opIs (ra 1) (dr (ret .none)))) (mRaise "NoText") (ret .nx))
    (mRet (dz (rv 1)))))
noncomputable def d_read_number : Mo Sl := mFun 1 1 b_read_number
noncomputable def b__law_bag : Mo Fl :=
    (mSeq (bnd (ret (.int 0)) fun x => sto 2 (.d x))
    (mSeq (mIf (mTrue (mBin opLt (ra 1) (dr (mB1 bLen (ac (ra 0) (ret [])))))) (bnd (mIx (ra 0) (ra 1)) fun x => sto 2 (.d x)) (ret .nx))
    (mSeq (bnd (ret (.int 0)) fun x => sto 3 (.d x))
    (mSeq (mIf (mTrue (mBin opGe (dr (mB1 bAbs (ac (ra 2) (ret [])))) (dr (mBin opPow (dr (ret (.int 10))) (dr (ret (.int 18))))))) (bnd (mB1 bAbs (ac (ra 2) (ret []))) fun x => sto 3 (.d x)) (ret .nx))
    (mSeq (bnd (ode (mLst (ac (dr (ret (.int 2147483647))) (ac (dr (ret (.int 2147483629))) (ac (dr (ret (.int 2147483587))) (ac (dr (ret (.int 2147483579))) (ac (dr (ret (.int 2147483563))) (ac (dr (ret (.int 2147483549))) (ac (dr (ret (.int 2147483543))) (ac (dr (ret (.int 2147483497))) (ret []))))))))))) fun x => sto 4 (.d x))
    (mSeq (bnd (mBin opAdd (dr (mBin opAdd (dr (mBin opAdd (dr (mBin opMul (dr (mBin opMod (ra 2) (dr (ret (.int 2147483647))))) (dr (ret (.int 69623))))) (dr (mBin opMul (dr (mBin opMul (dr (ret (.int 104729))) (ra 1))) (ra 1))))) (dr (mBin opMul (dr (ret (.int 7919))) (ra 1))))) (dr (ret (.int 12345)))) fun x => sto 5 (.d x))
    (mRet (doz (mLst (ac (dr (rv 3)) (ac (dr (mBin opMod (ra 5) (dr (mIx (ra 4) (dr (mBin opMod (ra 1) (dr (ret (.int 8))))))))) (ret []))))))))))))
noncomputable def d__law_bag : Mo Sl := mFun 2 4 b__law_bag
noncomputable def b__law_take : Mo Fl :=
    (mSeq (mIf (mTrue (mBin opGt (dr (mIx (ra 0) (dr (ret (.int 0))))) (dr (ret (.int 0))))) (mSeq (bnd (mBin opMod (dr (mIx (ra 0) (dr (ret (.int 0))))) (ra 1)) fun x => sto 2 (.d x))
    (mSeq (mSetIx 0 (mBin opFdiv (dr (mIx (ra 0) (dr (ret (.int 0))))) (ra 1)) (ret (.int 0)))
    (mRet (dz (rv 2))))) (ret .nx))
    (mSeq (mSetIx 0 (mBin opMod (dr (mBin opAdd (dr (mBin opMul (dr (mIx (ra 0) (dr (ret (.int 1))))) (dr (ret (.int 48271))))) (dr (ret (.int 2531011))))) (dr (ret (.int 2147483647)))) (ret (.int 1)))
    (mRet (dz (mBin opMod (dr (mBin opFdiv (dr (mBin opMod (dr (mBin opPow (dr (mIx (ra 0) (dr (ret (.int 1))))) (dr (ret (.int 3))))) (dr (ret (.int 2147483629))))) (dr (ret (.int 64))))) (ra 1))))))
noncomputable def d__law_take : Mo Sl := mFun 2 1 b__law_take
noncomputable def b__law_is_whole : Mo Fl :=
    (mRet (dz (mB (mAnd (mTrue (mIsI "int" (ra 0))) (mNot (mTrue (mIsI "bool" (ra 0))))))))
noncomputable def d__law_is_whole : Mo Sl := mFun 1 0 b__law_is_whole
noncomputable def t__law_shared_1 : Mo Bool :=
    (mTrue (mBin opGt (ra 1) (dr (ret (.int 0)))))
noncomputable def w__law_shared_1 : Mo Fl :=
    (mPar2 0 1 (vals (ac (dr (rv 1)) (ac (dr (mBin opMod (ra 0) (ra 1))) (ret [])))))
noncomputable def l__law_shared_1 : Mo Fl :=
    (mWhile t__law_shared_1 w__law_shared_1)
noncomputable def b__law_shared : Mo Fl :=
    (mSeq (mPar2 0 1 (vals (ac (dr (mB1 bAbs (ac (ra 0) (ret [])))) (ac (dr (mB1 bAbs (ac (ra 1) (ret [])))) (ret [])))))
    (mSeq l__law_shared_1
    (mRet (dz (rv 0)))))
noncomputable def d__law_shared : Mo Sl := mFun 2 0 b__law_shared
noncomputable def b__law_low : Mo Fl :=
    (mSeq (bnd (mBin opMul (dr (bnd (mCall d__law_shared (ac (dr (bnd (mCall d__law_shared (ac (dr (rv 0)) (ac (dr (rv 1)) (ret [])))) fz)) (ac (dr (rv 2)) (ret [])))) fz)) (dr (mIx (dr (ode (mLst (ac (dr (ret (.int 1))) (ac (dr (mNeg (dr (ret (.int 1))))) (ret [])))))) (dr (mB1 bInt (ac (dr (mBin opLt (ra 2) (dr (ret (.int 0))))) (ret []))))))) fun x => sto 3 (.d x))
    (mRet (dz (mTup (ac (dr (mBin opFdiv (ra 0) (ra 3))) (ac (dr (mBin opFdiv (ra 1) (ra 3))) (ac (dr (mBin opFdiv (ra 2) (ra 3))) (ret []))))))))
noncomputable def d__law_low : Mo Sl := mFun 3 1 b__law_low
noncomputable def e__law_is_number_1 : Mo D :=
    (bnd (mCall d__law_is_whole (ac (dr (rv 1)) (ret []))) fz)
noncomputable def q__law_is_number_1 : Mo Oo :=
    (mComp [1] (mItems (rv 0)) (gN 1) (ret true) e__law_is_number_1)
noncomputable def b__law_is_number : Mo Fl :=
    (mSeq (mIf (mOr (mNot (mTrue (mIsI "tuple" (ra 0)))) (mOr (mTrue (mBin opNe (dr (mB1 bLen (ac (ra 0) (ret [])))) (dr (ret (.int 3))))) (mNot (mTrue (mB1 bAll (ac (dr (ode q__law_is_number_1)) (ret []))))))) (mRet (dz (ret (.bool false)))) (ret .nx))
    (mRet (dz (mB (mAnd (mTrue (mBin opGt (dr (mIx (ra 0) (dr (ret (.int 2))))) (dr (ret (.int 0))))) (mTrue (mBin opEq (dr (bnd (mCall d__law_shared (ac (dr (bnd (mCall d__law_shared (ac (dr (mIx (ra 0) (dr (ret (.int 0))))) (ac (dr (mIx (ra 0) (dr (ret (.int 1))))) (ret [])))) fz)) (ac (dr (mIx (ra 0) (dr (ret (.int 2))))) (ret [])))) fz)) (dr (ret (.int 1))))))))))
noncomputable def d__law_is_number : Mo Sl := mFun 1 1 b__law_is_number
noncomputable def b__law_number : Mo Fl :=
    (mSeq (bnd (mIx (dr (ode (mLst (ac (dr (ret (.int 4))) (ac (dr (ret (.int 10))) (ac (dr (ret (.int 100))) (ac (dr (ret (.int 1000000))) (ret [])))))))) (dr (bnd (mCall d__law_take (ac (ra 0) (ac (dr (ret (.int 4))) (ret [])))) fz))) fun x => sto 1 (.d x))
    (mSeq (mPar2 4 5 (vals (ac (dr (mBin opSub (dr (bnd (mCall d__law_take (ac (ra 0) (ac (dr (rv 1)) (ret [])))) fz)) (dr (mBin opFdiv (ra 1) (dr (ret (.int 2))))))) (ac (dr (mBin opSub (dr (bnd (mCall d__law_take (ac (ra 0) (ac (dr (rv 1)) (ret [])))) fz)) (dr (mBin opFdiv (ra 1) (dr (ret (.int 2))))))) (ret [])))))
    (mSeq (bnd (mBin opAdd (dr (ret (.int 1))) (dr (bnd (mCall d__law_take (ac (ra 0) (ac (dr (mBin opSub (ra 1) (dr (ret (.int 1))))) (ret [])))) fz))) fun x => sto 2 (.d x))
    (mSeq (bnd (bnd (mCall d__law_take (ac (ra 0) (ac (dr (ret (.int 8))) (ret [])))) fz) fun x => sto 3 (.d x))
    (mRet (mCall d__law_low (ac (dr (mIx (dr (ode (mLst (ac (dr (rv 4)) (ac (dr (rv 4)) (ac (dr (rv 4)) (ac (dr (rv 4)) (ac (dr (rv 4)) (ac (dr (rv 4)) (ac (dr (rv 4)) (ac (dr (ret (.int 0))) (ret [])))))))))))) (ra 3))) (ac (dr (mIx (dr (ode (mLst (ac (dr (rv 5)) (ac (dr (rv 5)) (ac (dr (rv 5)) (ac (dr (rv 5)) (ac (dr (rv 5)) (ac (dr (ret (.int 0))) (ac (dr (ret (.int 0))) (ac (dr (rv 5)) (ret [])))))))))))) (ra 3))) (ac (dr (mIx (dr (ode (mLst (ac (dr (rv 2)) (ac (dr (rv 2)) (ac (dr (ret (.int 1))) (ac (dr (rv 2)) (ac (dr (ret (.int 1))) (ac (dr (rv 2)) (ac (dr (ret (.int 1))) (ac (dr (rv 2)) (ret [])))))))))))) (ra 3))) (ret []))))))))))
noncomputable def d__law_number : Mo Sl := mFun 1 5 b__law_number
noncomputable def b__law_roots : Mo Fl :=
    (mSeq (mIf (mTrue (mBin opEq (ra 0) (dr (ret (.int 1))))) (mRet (dz (ret (.str "r")))) (ret .nx))
    (mSeq (mIf (mTrue (mBin opEq (ra 0) (dr (mNeg (dr (ret (.int 1))))))) (mRet (dz (ret (.str "-r")))) (ret .nx))
    (mRet (dz (mBin opAdd (dr (mB1 bStr (ac (ra 0) (ret [])))) (dr (ret (.str "r"))))))))
noncomputable def d__law_roots : Mo Sl := mFun 1 0 b__law_roots
noncomputable def b__law_text : Mo Fl :=
    (mSeq (bnd (rv 0) (gF (gT [(gN 2), (gN 3), (gN 4)])))
    (mSeq (bnd (mB1 bStr (ac (ra 2) (ret []))) fun x => sto 1 (.d x))
    (mSeq (mIf (mAnd (mTrue (mBin opNe (ra 3) (dr (ret (.int 0))))) (mTrue (mBin opEq (ra 2) (dr (ret (.int 0)))))) (bnd (bnd (mCall d__law_roots (ac (dr (rv 3)) (ret []))) fz) fun x => sto 1 (.d x)) (mIf (mTrue (mBin opNe (ra 3) (dr (ret (.int 0))))) (mSeq (bnd (mIf (mTrue (mBin opGt (ra 3) (dr (ret (.int 0))))) (mBin opAdd (dr (mBin opAdd (dr (mB1 bStr (ac (ra 2) (ret [])))) (dr (ret (.str "+"))))) (dr (bnd (mCall d__law_roots (ac (dr (rv 3)) (ret []))) fz))) (mBin opAdd (dr (mB1 bStr (ac (ra 2) (ret [])))) (dr (bnd (mCall d__law_roots (ac (dr (rv 3)) (ret []))) fz)))) fun x => sto 1 (.d x))
    (mIf (mTrue (mBin opNe (ra 4) (dr (ret (.int 1))))) (bnd (mBin opAdd (dr (mBin opAdd (dr (ret (.str "("))) (ra 1))) (dr (ret (.str ")")))) fun x => sto 1 (.d x)) (ret .nx))) (ret .nx)))
    (mRet (dz (mIf (mTrue (mBin opEq (ra 4) (dr (ret (.int 1))))) (rv 1) (mBin opAdd (dr (mBin opAdd (ra 1) (dr (ret (.str "/"))))) (dr (mB1 bStr (ac (ra 4) (ret [])))))))))))
noncomputable def d__law_text : Mo Sl := mFun 1 4 b__law_text
noncomputable def w__law_digits_1 : Mo Fl :=
    (bnd (mBin opAdd (dr (mBin opMul (ra 2) (dr (mBin opPow (dr (ret (.int 10))) (dr (ret (.int 4))))))) (dr (bnd (mCall d__law_take (ac (ra 0) (ac (dr (mBin opPow (dr (ret (.int 10))) (dr (ret (.int 4))))) (ret [])))) fz))) fun x => sto 2 (.d x))
noncomputable def l__law_digits_1 : Mo Fl :=
    (mFor (mRng rg1 (ac (dr (ret (.int 10))) (ret []))) (gN 3) w__law_digits_1)
noncomputable def b__law_digits : Mo Fl :=
    (mSeq (bnd (ret (.int 0)) fun x => sto 2 (.d x))
    (mSeq l__law_digits_1
    (mRet (dz (mBin opMod (ra 2) (ra 1))))))
noncomputable def d__law_digits : Mo Sl := mFun 2 2 b__law_digits
noncomputable def e__law_any_number_1 : Mo D :=
    (mBin opMul (dr (bnd (mCall d__law_digits (ac (ra 0) (ac (dr (rv 2)) (ret [])))) fz)) (dr (mBin opSub (dr (ret (.int 1))) (dr (mBin opMul (dr (ret (.int 2))) (dr (bnd (mCall d__law_take (ac (ra 0) (ac (dr (ret (.int 2))) (ret [])))) fz)))))))
noncomputable def q__law_any_number_1 : Mo Oo :=
    (mComp [7] (mRng rg1 (ac (dr (ret (.int 2))) (ret []))) (gN 7) (ret true) e__law_any_number_1)
noncomputable def w__law_any_number_1 : Mo Fl :=
    (bnd (mBin opMul (ra 2) (dr (ret (.int 10)))) fun x => sto 2 (.d x))
noncomputable def l__law_any_number_1 : Mo Fl :=
    (mFor (mRng rg1 (ac (dr (mIx (dr (ode (mLst (ac (dr (ret (.int 39))) (ac (dr (bnd (mCall d__law_take (ac (ra 0) (ac (dr (ret (.int 39))) (ret [])))) fz)) (ret [])))))) (dr (mBin opSub (dr (ret (.int 3))) (ra 1))))) (ret []))) (gN 3) w__law_any_number_1)
noncomputable def b__law_any_number : Mo Fl :=
    (mSeq (bnd (bnd (mCall d__law_take (ac (ra 0) (ac (dr (ret (.int 4))) (ret [])))) fz) fun x => sto 1 (.d x))
    (mSeq (mIf (mTrue (mBin opLt (ra 1) (dr (ret (.int 2))))) (mRet (mCall d__law_number (ac (ra 0) (ret [])))) (ret .nx))
    (mSeq (bnd (ret (.int 10)) fun x => sto 2 (.d x))
    (mSeq l__law_any_number_1
    (mSeq (bnd (ode q__law_any_number_1) (gF (gT [(gN 5), (gN 6)])))
    (mSeq (bnd (mBin opAdd (dr (ret (.int 1))) (dr (mBin opMod (dr (bnd (mCall d__law_digits (ac (ra 0) (ac (dr (rv 2)) (ret [])))) fz)) (dr (mBin opSub (ra 2) (dr (ret (.int 1)))))))) fun x => sto 4 (.d x))
    (mRet (mCall d__law_low (ac (dr (mIx (dr (ode (mLst (ac (dr (rv 5)) (ac (dr (rv 5)) (ac (dr (ret (.int 0))) (ac (dr (rv 5)) (ret [])))))))) (dr (bnd (mCall d__law_take (ac (ra 0) (ac (dr (ret (.int 4))) (ret [])))) fz)))) (ac (dr (mIx (dr (ode (mLst (ac (dr (rv 6)) (ac (dr (ret (.int 1))) (ac (dr (rv 6)) (ac (dr (mNeg (dr (ret (.int 1))))) (ac (dr (ret (.int 0))) (ret []))))))))) (dr (bnd (mCall d__law_take (ac (ra 0) (ac (dr (ret (.int 5))) (ret [])))) fz)))) (ac (dr (mIx (dr (ode (mLst (ac (dr (rv 4)) (ac (dr (ret (.int 1))) (ret [])))))) (dr (bnd (mCall d__law_take (ac (ra 0) (ac (dr (ret (.int 2))) (ret [])))) fz)))) (ret []))))))))))))
noncomputable def d__law_any_number : Mo Sl := mFun 1 7 b__law_any_number
noncomputable def w_law_1 : Mo Fl :=
    (mIf (mOr (mTrue (mBin opNe (dr (bnd (mCall d_show_number (ac (dr (rv 5)) (ret []))) fz)) (ra 6))) (mTrue (mBin opNe (dr (bnd (mCall d_read_number (ac (dr (rv 6)) (ret []))) fz)) (ra 5)))) (mRet (dz (ret (.bool false)))) (ret .nx))
noncomputable def l_law_1 : Mo Fl :=
    (mFor (mItems (rv 1)) (gT [(gN 5), (gN 6)]) w_law_1)
noncomputable def w_law_2 : Mo Fl :=
    (mSeq (bnd (bnd (mCall d__law_any_number (ac (ra 3) (ret []))) fz) fun x => sto 5 (.d x))
    (mSeq (bnd (bnd (mCall d_show_number (ac (dr (rv 5)) (ret []))) fz) fun x => sto 6 (.d x))
    (mSeq (mIf (mOr (mNot (mTrue (mIsI "str" (ra 6)))) (mTrue (mBin opNe (ra 6) (dr (bnd (mCall d__law_text (ac (dr (rv 5)) (ret []))) fz))))) (mRet (dz (ret (.bool false)))) (ret .nx))
    (mSeq (bnd (bnd (mCall d_read_number (ac (dr (rv 6)) (ret []))) fz) fun x => sto 7 (.d x))
    (mSeq (mIf (mOr (mNot (mTrue (bnd (mCall d__law_is_number (ac (dr (rv 7)) (ret []))) fz))) (mTrue (mBin opNe (ra 7) (ra 5)))) (mRet (dz (ret (.bool false)))) (ret .nx))
    (bnd (dz (mMeth 1 gAppend (ac (dr (mTup (ac (dr (rv 5)) (ac (dr (rv 6)) (ret []))))) (ret [])))) fun _ => ret .nx))))))
noncomputable def l_law_2 : Mo Fl :=
    (mFor (mRng rg1 (ac (dr (ret (.int 6))) (ret []))) (gN 4) w_law_2)
noncomputable def w_law_3 : Mo Fl :=
    (mSeq (bnd (mOwn (mCall d__law_bag (ac (dr (rv 0)) (ac (dr (rv 2)) (ret []))))) fun o => sto 3 (.own false o))
    l_law_2)
noncomputable def l_law_3 : Mo Fl :=
    (mFor (mRng rg1 (ac (dr (mB1 bMax (ac (dr (ret (.int 2))) (ac (dr (mB1 bMin (ac (dr (ret (.int 6))) (ac (dr (mB1 bLen (ac (ra 0) (ret [])))) (ret []))))) (ret []))))) (ret []))) (gN 2) w_law_3)
noncomputable def b_law : Mo Fl :=
    (mSeq (bnd (mLst (ret [])) fun o => sto 1 (.own false o))
    (mSeq l_law_3
    (mSeq l_law_1
    (mRet (dz (mB (mAnd (mTrue (mBin opEq (dr (bnd (mCall d_show_number (ac (dr (mTup (ac (dr (ret (.int 0))) (ac (dr (mNeg (dr (ret (.int 1))))) (ac (dr (ret (.int 1))) (ret [])))))) (ret []))) fz)) (dr (ret (.str "-r"))))) (mAnd (mTrue (mBin opEq (dr (bnd (mCall d_show_number (ac (dr (mTup (ac (dr (ret (.int 1))) (ac (dr (mNeg (dr (ret (.int 1))))) (ac (dr (ret (.int 2))) (ret [])))))) (ret []))) fz)) (dr (ret (.str "(1-r)/2"))))) (mTrue (mBin opEq (dr (bnd (mCall d_read_number (ac (dr (ret (.str "0"))) (ret []))) fz)) (dr (mTup (ac (dr (ret (.int 0))) (ac (dr (ret (.int 0))) (ac (dr (ret (.int 1))) (ret []))))))))))))))))
noncomputable def d_law : Mo Sl := mFun 1 7 b_law

end My
end
section
set_option maxHeartbeats 4000000
namespace My
open PySem PySem.Spec L2 DL
open PyProof.Rows hiding St
def top (i : Nat) : Stmt := PySem.Challenge.pw_matefloors_k47_numbers_written.main.body.getD i (.Pass ⟨0, 0, 0, 0⟩)
abbrev s_is_whole : Stmt := top 4
theorem sc_is_whole : FnScope ["thing"] ["thing"] (defScope s_is_whole) := ⟨rfl, rfl, rfl, by decide +kernel, rfl, by decide +kernel, by decide +kernel⟩
theorem ok_is_whole {P : Program} {w : World} {K : PySem.W.Frag} {mg : Str → Option Value} {base : Heap} {f : Addr} {fd : FuncData} (F : FunD K "is_whole" "is_whole" (defArgs s_is_whole) (defBody s_is_whole) (defScope s_is_whole) [] [] f fd) (hm : mg "is_whole" = some (.ref f)) (BB : Blt mg) :
    Cb P w K mg base 1 "is_whole" 1 d_is_whole :=
  cb_mk F hm (F.bindsN fun _ _ _ _ _ _ us hl => match us, hl with | [_], _ => rfl) (fn_ok F sc_is_whole rfl rfl (by decide) fun cdv A outer s H E hr =>
    (dss_one (ds_ret (DE.dz (DB.de (db_and (DE.db (de_isi kit_int rfl BB.isinstance rfl BB.int (by decide +kernel) (dr_var 0))) (db_one (db_not (DE.db (de_isi kit_bool rfl BB.isinstance rfl BB.bool (by decide +kernel) (dr_var 0)))))))))))
abbrev s_shared : Stmt := top 5
theorem sc_shared : FnScope ["one", "other"] ["one", "other"] (defScope s_shared) := ⟨rfl, rfl, rfl, by decide +kernel, rfl, by decide +kernel, by decide +kernel⟩
theorem ok_shared {P : Program} {w : World} {K : PySem.W.Frag} {mg : Str → Option Value} {base : Heap} {f : Addr} {fd : FuncData} (F : FunD K "shared" "shared" (defArgs s_shared) (defBody s_shared) (defScope s_shared) [] [] f fd) (hm : mg "shared" = some (.ref f)) (BB : Blt mg) :
    Cb P w K mg base 1 "shared" 2 d_shared :=
  cb_mk F hm (F.bindsN fun _ _ _ _ _ _ us hl => match us, hl with | [_, _], _ => rfl) (fn_ok F sc_shared rfl rfl (by decide) fun cdv A outer s H E hr =>
    (dss_cons (ds_par (i := 0) (j := 1) rfl sc_shared.nd rfl rfl (by decide) rfl rfl (da_cons (DE.dr (de_callB cd_abs rfl BB.abs (by decide +kernel) (da_cons (dr_var 0) da_nil))) (da_cons (DE.dr (de_callB cd_abs rfl BB.abs (by decide +kernel) (da_cons (dr_var 1) da_nil))) da_nil)) (by rfl)) (dss_cons (ds_while (passes_of rfl) (dt_cmp od_gt (dr_var 1) (DE.dr de_int)) (dss_one (ds_par (i := 0) (j := 1) rfl sc_shared.nd rfl rfl (by decide) rfl rfl (da_cons (DE.dr (de_var 1)) (da_cons (DE.dr (de_bin od_mod (dr_var 0) (dr_var 1))) da_nil)) (by rfl)))) (dss_one (ds_ret (DE.dz (de_var 0)))))))
abbrev s_is_number : Stmt := top 6
theorem sc_is_number : FnScope ["thing", "a", "b", "c", "part"] ["thing"] (defScope s_is_number) := ⟨rfl, rfl, rfl, by decide +kernel, rfl, by decide +kernel, by decide +kernel⟩
theorem ok_is_number {P : Program} {w : World} {K : PySem.W.Frag} {mg : Str → Option Value} {base : Heap} {f : Addr} {fd : FuncData} (F : FunD K "is_number" "is_number" (defArgs s_is_number) (defBody s_is_number) (defScope s_is_number) [] [] f fd) (hm : mg "is_number" = some (.ref f)) (BB : Blt mg) (c_shared : Cb P w K mg base 1 "shared" 2 d_shared) (c_is_whole : Cb P w K mg base 1 "is_whole" 1 d_is_whole) :
    Cb P w K mg base 2 "is_number" 1 d_is_number :=
  cb_mk F hm (F.bindsN fun _ _ _ _ _ _ us hl => match us, hl with | [_], _ => rfl) (fn_ok F sc_is_number rfl rfl (by decide) fun cdv A outer s H E hr =>
    (dss_cons (ds_if (DW.dt (dw_or (dt_not (DE.dt (de_isi kit_tuple rfl BB.isinstance rfl BB.tuple (by decide +kernel) (dr_var 0)))) (dw_or (dt_cmp (od_ne hr.units) (DE.dr (de_callB cd_len rfl BB.len (by decide +kernel) (da_cons (dr_var 0) da_nil))) (DE.dr de_int)) (dw_or1 (dt_not (DE.dt (de_callB (cd_all rfl) rfl BB.all (by decide +kernel) (da_cons (DE.dr (DO.de (do_lc [("part", 4)] rfl sc_is_number.nd (di_seq (de_var 0)) (blkOk_by (N := ["thing", "a", "b", "c", "part"]) (sc := defScope s_is_number) (by decide +kernel)) (fun _ _ _ _ _ => (dg_name (i := 4) sc_is_number.nd rfl (by first | exact Or.inl rfl | exact Or.inr rfl))) (fun _ _ _ _ _ => dts_nil) (fun _ _ _ _ _ => (DZ.de (dz_call takes0 c_is_whole (hr.mono (by decide)) rfl (da_cons (DE.dr (de_var 4)) da_nil))))))) da_nil)))))))) (dss_one (ds_ret (DE.dz de_bl))) dss_nil) (dss_cons (ds_asg (de_var 0) (dg_tup rfl (dgs_cons (dg_name (i := 1) sc_is_number.nd rfl (Or.inl rfl)) (dgs_cons (dg_name (i := 2) sc_is_number.nd rfl (Or.inl rfl)) (dgs_cons (dg_name (i := 3) sc_is_number.nd rfl (Or.inl rfl)) dgs_nil))))) (dss_one (ds_ret (DE.dz (DB.de (db_and (DE.db (de_cmp od_ge (dr_var 3) (DE.dr de_int))) (db_one (DE.db (de_cmp (od_eq hr.units) (DE.dr (DZ.de (dz_call (takes_of rfl rfl rfl rfl) c_shared (hr.mono (by decide)) rfl (da_cons (DE.dr (DZ.de (dz_call (takes_of rfl rfl rfl rfl) c_shared (hr.mono (by decide)) rfl (da_cons (DE.dr (de_var 1)) (da_cons (DE.dr (de_var 2)) da_nil))))) (da_cons (DE.dr (de_var 3)) da_nil))))) (DE.dr de_int))))))))))))
abbrev s_root_text : Stmt := top 10
theorem sc_root_text : FnScope ["b"] ["b"] (defScope s_root_text) := ⟨rfl, rfl, rfl, by decide +kernel, rfl, by decide +kernel, by decide +kernel⟩
theorem ok_root_text {P : Program} {w : World} {K : PySem.W.Frag} {mg : Str → Option Value} {base : Heap} {f : Addr} {fd : FuncData} (F : FunD K "root_text" "root_text" (defArgs s_root_text) (defBody s_root_text) (defScope s_root_text) [] [] f fd) (hm : mg "root_text" = some (.ref f)) (BB : Blt mg) :
    Cb P w K mg base 1 "root_text" 1 d_root_text :=
  cb_mk F hm (F.bindsN fun _ _ _ _ _ _ us hl => match us, hl with | [_], _ => rfl) (fn_ok F sc_root_text rfl rfl (by decide) fun cdv A outer s H E hr =>
    (dss_cons (ds_if (dt_cmp (od_in hr.u65) (dr_var 0) (DE.dr (de_tup (da_cons (DE.dr de_int) (da_cons (DE.dr (de_neg (DE.dr de_int))) da_nil))))) (dss_one (ds_ret (DE.dz (de_if (dt_cmp od_gt (dr_var 0) (DE.dr de_int)) de_str de_str)))) dss_nil) (dss_one (ds_ret (DE.dz (de_bin od_add (DE.dr (de_callTy cd_str rfl BB.str (by decide +kernel) (da_cons (dr_var 0) da_nil))) (DE.dr de_str)))))))
abbrev s_show_number : Stmt := top 11
theorem sc_show_number : FnScope ["x", "end", "text", "a", "b", "c"] ["x"] (defScope s_show_number) := ⟨rfl, rfl, rfl, by decide +kernel, rfl, by decide +kernel, by decide +kernel⟩
theorem ok_show_number {P : Program} {w : World} {K : PySem.W.Frag} {mg : Str → Option Value} {base : Heap} {f : Addr} {fd : FuncData} (F : FunD K "show_number" "show_number" (defArgs s_show_number) (defBody s_show_number) (defScope s_show_number) [] [] f fd) (hm : mg "show_number" = some (.ref f)) (BB : Blt mg) (c_root_text : Cb P w K mg base 1 "root_text" 1 d_root_text) :
    Cb P w K mg base 2 "show_number" 1 d_show_number :=
  cb_mk F hm (F.bindsN fun _ _ _ _ _ _ us hl => match us, hl with | [_], _ => rfl) (fn_ok F sc_show_number rfl rfl (by decide) fun cdv A outer s H E hr =>
    (dss_cons (ds_asg (de_var 0) (dg_tup rfl (dgs_cons (dg_name (i := 3) sc_show_number.nd rfl (Or.inl rfl)) (dgs_cons (dg_name (i := 4) sc_show_number.nd rfl (Or.inl rfl)) (dgs_cons (dg_name (i := 5) sc_show_number.nd rfl (Or.inl rfl)) dgs_nil))))) (dss_cons (ds_set (i := 1) sc_show_number.nd rfl (Or.inl rfl) (de_if (dt_cmp (od_eq hr.units) (dr_var 5) (DE.dr de_int)) de_str (de_bin od_add (DE.dr de_str) (DE.dr (de_callTy cd_str rfl BB.str (by decide +kernel) (da_cons (dr_var 5) da_nil)))))) (dss_cons (ds_if (dt_cmp (od_eq hr.units) (dr_var 4) (DE.dr de_int)) (dss_one (ds_ret (DE.dz (de_bin od_add (DE.dr (de_callTy cd_str rfl BB.str (by decide +kernel) (da_cons (dr_var 3) da_nil))) (dr_var 1))))) dss_nil) (dss_cons (ds_if (dt_cmp (od_eq hr.units) (dr_var 3) (DE.dr de_int)) (dss_one (ds_ret (DE.dz (de_bin od_add (DE.dr (DZ.de (dz_call (takes_of rfl rfl rfl rfl) c_root_text (hr.mono (by decide)) rfl (da_cons (DE.dr (de_var 4)) da_nil)))) (dr_var 1))))) dss_nil) (dss_cons (ds_set (i := 2) sc_show_number.nd rfl (Or.inl rfl) (de_bin od_add (DE.dr (de_bin od_add (DE.dr (de_callTy cd_str rfl BB.str (by decide +kernel) (da_cons (dr_var 3) da_nil))) (DE.dr (de_if (dt_cmp od_gt (dr_var 4) (DE.dr de_int)) de_str de_str)))) (DE.dr (DZ.de (dz_call (takes_of rfl rfl rfl rfl) c_root_text (hr.mono (by decide)) rfl (da_cons (DE.dr (de_var 4)) da_nil)))))) (dss_one (ds_ret (DE.dz (de_if (dt_cmp (od_eq hr.units) (dr_var 5) (DE.dr de_int)) (de_var 2) (de_bin od_add (DE.dr (de_bin od_add (DE.dr (de_bin od_add (DE.dr de_str) (dr_var 2))) (DE.dr de_str))) (dr_var 1))))))))))))
abbrev s_whole_of : Stmt := top 12
theorem sc_whole_of : FnScope ["text", "figures", "sign"] ["text"] (defScope s_whole_of) := ⟨rfl, rfl, rfl, by decide +kernel, rfl, by decide +kernel, by decide +kernel⟩
theorem ok_whole_of {P : Program} {w : World} {K : PySem.W.Frag} {mg : Str → Option Value} {base : Heap} {f : Addr} {fd : FuncData} (F : FunD K "whole_of" "whole_of" (defArgs s_whole_of) (defBody s_whole_of) (defScope s_whole_of) [] [] f fd) (hm : mg "whole_of" = some (.ref f)) (BB : Blt mg) (k_FIGURES : Gc K mg "FIGURES" v_FIGURES) (k_MOST_FIGURES : Gc K mg "MOST_FIGURES" v_MOST_FIGURES) :
    Cb P w K mg base 1 "whole_of" 1 d_whole_of :=
  cb_mk F hm (F.bindsN fun _ _ _ _ _ _ us hl => match us, hl with | [_], _ => rfl) (fn_ok F sc_whole_of rfl rfl (by decide) fun cdv A outer s H E hr =>
    (dss_cons (ds_set (i := 1) sc_whole_of.nd rfl (Or.inl rfl) (de_if (dt_cmp (od_eq hr.units) (DE.dr (de_slice (dr_var 0) dp_none (dp_some de_int))) (DE.dr de_str)) (de_slice (dr_var 0) (dp_some de_int) dp_none) (de_var 0))) (dss_cons (ds_if (DW.dt (dw_or (dt_cmp (od_eq hr.units) (dr_var 1) (DE.dr de_str)) (dw_or (dt_cmp od_gt (DE.dr (de_callB cd_len rfl BB.len (by decide +kernel) (da_cons (dr_var 1) da_nil))) (DE.dr (de_gc k_MOST_FIGURES rfl))) (dw_or1 (dt_not (DE.dt (de_callB (cd_all rfl) rfl BB.all (by decide +kernel) (da_cons (DE.dr (DO.de (do_lc [("sign", 2)] rfl sc_whole_of.nd (di_str (de_var 1)) (blkOk_by (N := ["text", "figures", "sign"]) (sc := defScope s_whole_of) (by decide +kernel)) (fun _ _ _ _ _ => (dg_name (i := 2) sc_whole_of.nd rfl (by first | exact Or.inl rfl | exact Or.inr rfl))) (fun _ _ _ _ _ => dts_nil) (fun _ _ _ _ _ => (de_cmp (od_in hr.u65) (dr_var 2) (DE.dr (de_gc k_FIGURES rfl))))))) da_nil)))))))) (dss_one (ds_ret (DE.dz de_non))) dss_nil) (dss_one (ds_ret (DE.dz (de_callTy cd_int rfl BB.int (by decide +kernel) (da_cons (dr_var 0) da_nil))))))))
abbrev s_roots_of : Stmt := top 13
theorem sc_roots_of : FnScope ["text"] ["text"] (defScope s_roots_of) := ⟨rfl, rfl, rfl, by decide +kernel, rfl, by decide +kernel, by decide +kernel⟩
theorem ok_roots_of {P : Program} {w : World} {K : PySem.W.Frag} {mg : Str → Option Value} {base : Heap} {f : Addr} {fd : FuncData} (F : FunD K "roots_of" "roots_of" (defArgs s_roots_of) (defBody s_roots_of) (defScope s_roots_of) [] [] f fd) (hm : mg "roots_of" = some (.ref f)) (BB : Blt mg) (c_whole_of : Cb P w K mg base 1 "whole_of" 1 d_whole_of) :
    Cb P w K mg base 2 "roots_of" 1 d_roots_of :=
  cb_mk F hm (F.bindsN fun _ _ _ _ _ _ us hl => match us, hl with | [_], _ => rfl) (fn_ok F sc_roots_of rfl rfl (by decide) fun cdv A outer s H E hr =>
    (dss_cons (ds_if (dt_cmp (od_in hr.u65) (dr_var 0) (DE.dr (de_tup (da_cons (DE.dr de_str) (da_cons (DE.dr de_str) (da_cons (DE.dr de_str) da_nil)))))) (dss_one (ds_ret (DE.dz (de_if (dt_cmp (od_eq hr.units) (dr_var 0) (DE.dr de_str)) (de_neg (DE.dr de_int)) de_int)))) dss_nil) (dss_one (ds_ret (dz_call (takes_of rfl rfl rfl rfl) c_whole_of (hr.mono (by decide)) rfl (da_cons (DE.dr (de_if (dt_cmp (od_eq hr.units) (DE.dr (de_slice (dr_var 0) dp_none (dp_some de_int))) (DE.dr de_str)) (de_slice (dr_var 0) (dp_some de_int) dp_none) (de_var 0))) da_nil))))))
abbrev s_top_of : Stmt := top 14
theorem sc_top_of : FnScope ["text", "place"] ["text"] (defScope s_top_of) := ⟨rfl, rfl, rfl, by decide +kernel, rfl, by decide +kernel, by decide +kernel⟩
theorem ok_top_of {P : Program} {w : World} {K : PySem.W.Frag} {mg : Str → Option Value} {base : Heap} {f : Addr} {fd : FuncData} (F : FunD K "top_of" "top_of" (defArgs s_top_of) (defBody s_top_of) (defScope s_top_of) [] [] f fd) (hm : mg "top_of" = some (.ref f)) (BB : Blt mg) (c_roots_of : Cb P w K mg base 2 "roots_of" 1 d_roots_of) (c_whole_of : Cb P w K mg base 1 "whole_of" 1 d_whole_of) :
    Cb P w K mg base 3 "top_of" 1 d_top_of :=
  cb_mk F hm (F.bindsN fun _ _ _ _ _ _ us hl => match us, hl with | [_], _ => rfl) (fn_ok F sc_top_of rfl rfl (by decide) fun cdv A outer s H E hr =>
    (dss_cons (ds_if (dt_cmp (od_ne hr.units) (DE.dr (de_slice (dr_var 0) (dp_some (de_neg (DE.dr de_int))) dp_none)) (DE.dr de_str)) (dss_one (ds_ret (DE.dz (de_tup (da_cons (DE.dr (DZ.de (dz_call (takes_of rfl rfl rfl rfl) c_whole_of (hr.mono (by decide)) rfl (da_cons (DE.dr (de_var 0)) da_nil)))) (da_cons (DE.dr de_int) da_nil)))))) dss_nil) (dss_cons (ds_set (i := 1) sc_top_of.nd rfl (Or.inl rfl) (de_callB (cd_max rfl) rfl BB.max (by decide +kernel) (da_cons (DE.dr (de_m1 PySem.F.slot_str_rfind PySem.F.type_str_rfind sm_rfind (de_var 0) (DE.dr de_str))) (da_cons (DE.dr (de_m1 PySem.F.slot_str_rfind PySem.F.type_str_rfind sm_rfind (de_var 0) (DE.dr de_str))) da_nil)))) (dss_cons (ds_if (dt_cmp od_lt (dr_var 1) (DE.dr de_int)) (dss_one (ds_ret (DE.dz (de_tup (da_cons (DE.dr de_int) (da_cons (DE.dr (DZ.de (dz_call (takes_of rfl rfl rfl rfl) c_roots_of (hr.mono (by decide)) rfl (da_cons (DE.dr (de_slice (dr_var 0) dp_none (dp_some (de_neg (DE.dr de_int))))) da_nil)))) da_nil)))))) dss_nil) (dss_one (ds_ret (DE.dz (de_tup (da_cons (DE.dr (DZ.de (dz_call (takes_of rfl rfl rfl rfl) c_whole_of (hr.mono (by decide)) rfl (da_cons (DE.dr (de_slice (dr_var 0) dp_none (dp_some (de_var 1)))) da_nil)))) (da_cons (DE.dr (DZ.de (dz_call (takes_of rfl rfl rfl rfl) c_roots_of (hr.mono (by decide)) rfl (da_cons (DE.dr (de_slice (dr_var 0) (dp_some (de_var 1)) (dp_some (de_neg (DE.dr de_int))))) da_nil)))) da_nil))))))))))
abbrev s_number_in : Stmt := top 15
theorem sc_number_in : FnScope ["text", "c", "ahead", "stroke", "behind", "a", "b"] ["text"] (defScope s_number_in) := ⟨rfl, rfl, rfl, by decide +kernel, rfl, by decide +kernel, by decide +kernel⟩
theorem ok_number_in {P : Program} {w : World} {K : PySem.W.Frag} {mg : Str → Option Value} {base : Heap} {f : Addr} {fd : FuncData} (F : FunD K "number_in" "number_in" (defArgs s_number_in) (defBody s_number_in) (defScope s_number_in) [] [] f fd) (hm : mg "number_in" = some (.ref f)) (BB : Blt mg) (c_is_number : Cb P w K mg base 2 "is_number" 1 d_is_number) (c_whole_of : Cb P w K mg base 1 "whole_of" 1 d_whole_of) (c_top_of : Cb P w K mg base 3 "top_of" 1 d_top_of) :
    Cb P w K mg base 4 "number_in" 1 d_number_in :=
  cb_mk F hm (F.bindsN fun _ _ _ _ _ _ us hl => match us, hl with | [_], _ => rfl) (fn_ok F sc_number_in rfl rfl (by decide) fun cdv A outer s H E hr =>
    (dss_cons (ds_asg (de_m1 PySem.F.slot_str_partition PySem.F.type_str_partition sm_partition (de_var 0) (DE.dr de_str)) (dg_tup rfl (dgs_cons (dg_name (i := 2) sc_number_in.nd rfl (Or.inl rfl)) (dgs_cons (dg_name (i := 3) sc_number_in.nd rfl (Or.inl rfl)) (dgs_cons (dg_name (i := 4) sc_number_in.nd rfl (Or.inl rfl)) dgs_nil))))) (dss_cons (ds_if (DW.dt (dw_and (dt_cmp (od_eq hr.units) (DE.dr (de_slice (dr_var 2) dp_none (dp_some de_int))) (DE.dr de_str)) (dw_and1 (dt_cmp (od_eq hr.units) (DE.dr (de_slice (dr_var 2) (dp_some (de_neg (DE.dr de_int))) dp_none)) (DE.dr de_str))))) (dss_one (ds_set (i := 2) sc_number_in.nd rfl (Or.inl rfl) (de_slice (dr_var 2) (dp_some de_int) (dp_some (de_neg (DE.dr de_int)))))) dss_nil) (dss_cons (ds_asg (DZ.de (dz_call (takes_of rfl rfl rfl rfl) c_top_of (hr.mono (by decide)) rfl (da_cons (DE.dr (de_var 2)) da_nil))) (dg_tup rfl (dgs_cons (dg_name (i := 5) sc_number_in.nd rfl (Or.inl rfl)) (dgs_cons (dg_name (i := 6) sc_number_in.nd rfl (Or.inl rfl)) dgs_nil)))) (dss_cons (ds_set (i := 1) sc_number_in.nd rfl (Or.inl rfl) (de_if (dt_cmp (od_eq hr.units) (dr_var 3) (DE.dr de_str)) (DZ.de (dz_call (takes_of rfl rfl rfl rfl) c_whole_of (hr.mono (by decide)) rfl (da_cons (DE.dr (de_var 4)) da_nil))) de_int)) (dss_cons (ds_if (DW.dt (dw_or (dt_cmp od_is (dr_var 5) (DE.dr de_non)) (dw_or (dt_cmp od_is (dr_var 6) (DE.dr de_non)) (dw_or (dt_cmp od_is (dr_var 1) (DE.dr de_non)) (dw_or1 (dt_not (DE.dt (DZ.de (dz_call (takes_of rfl rfl rfl rfl) c_is_number (hr.mono (by decide)) rfl (da_cons (DE.dr (de_tup (da_cons (DE.dr (de_var 5)) (da_cons (DE.dr (de_var 6)) (da_cons (DE.dr (de_var 1)) da_nil))))) da_nil)))))))))) (dss_one (ds_ret (DE.dz de_non))) dss_nil) (dss_one (ds_ret (DE.dz (de_tup (da_cons (DE.dr (de_var 5)) (da_cons (DE.dr (de_var 6)) (da_cons (DE.dr (de_var 1)) da_nil)))))))))))))
abbrev s_number_by : Stmt := top 16
theorem sc_number_by : FnScope ["text", "found"] ["text"] (defScope s_number_by) := ⟨rfl, rfl, rfl, by decide +kernel, rfl, by decide +kernel, by decide +kernel⟩
theorem ok_number_by {P : Program} {w : World} {K : PySem.W.Frag} {mg : Str → Option Value} {base : Heap} {f : Addr} {fd : FuncData} (F : FunD K "number_by" "number_by" (defArgs s_number_by) (defBody s_number_by) (defScope s_number_by) [] [] f fd) (hm : mg "number_by" = some (.ref f)) (BB : Blt mg) (c_show_number : Cb P w K mg base 2 "show_number" 1 d_show_number) (c_number_in : Cb P w K mg base 4 "number_in" 1 d_number_in) :
    Cb P w K mg base 5 "number_by" 1 d_number_by :=
  cb_mk F hm (F.bindsN fun _ _ _ _ _ _ us hl => match us, hl with | [_], _ => rfl) (fn_ok F sc_number_by rfl rfl (by decide) fun cdv A outer s H E hr =>
    (dss_cons (ds_set (i := 1) sc_number_by.nd rfl (Or.inl rfl) (DZ.de (dz_call (takes_of rfl rfl rfl rfl) c_number_in (hr.mono (by decide)) rfl (da_cons (DE.dr (de_var 0)) da_nil)))) (dss_one (ds_ret (DE.dz (de_if (DW.dt (dw_and (dt_cmp od_isnot (dr_var 1) (DE.dr de_non)) (dw_and1 (dt_cmp (od_eq hr.units) (DE.dr (DZ.de (dz_call (takes_of rfl rfl rfl rfl) c_show_number (hr.mono (by decide)) rfl (da_cons (DE.dr (de_var 1)) da_nil)))) (dr_var 0))))) (de_var 1) de_non))))))
abbrev s_read_number : Stmt := top 17
theorem sc_read_number : FnScope ["text", "found"] ["text"] (defScope s_read_number) := ⟨rfl, rfl, rfl, by decide +kernel, rfl, by decide +kernel, by decide +kernel⟩
theorem ok_read_number {P : Program} {w : World} {K : PySem.W.Frag} {mg : Str → Option Value} {base : Heap} {f : Addr} {fd : FuncData} (F : FunD K "read_number" "read_number" (defArgs s_read_number) (defBody s_read_number) (defScope s_read_number) [] [] f fd) (hm : mg "read_number" = some (.ref f)) (BB : Blt mg) (c_number_by : Cb P w K mg base 5 "number_by" 1 d_number_by) (x_NoText : Xc K mg "NoText") :
    Cb P w K mg base 6 "read_number" 1 d_read_number :=
  cb_mk F hm (F.bindsN fun _ _ _ _ _ _ us hl => match us, hl with | [_], _ => rfl) (fn_ok F sc_read_number rfl rfl (by decide) fun cdv A outer s H E hr =>
    (dss_cons (ds_set (i := 1) sc_read_number.nd rfl (Or.inl rfl) (de_if (DE.dt (de_isi kit_str rfl BB.isinstance rfl BB.str (by decide +kernel) (dr_var 0))) (DZ.de (dz_call (takes_of rfl rfl rfl rfl) c_number_by (hr.mono (by decide)) rfl (da_cons (DE.dr (de_var 0)) da_nil))) de_non)) (dss_cons (ds_if (dt_cmp od_is (dr_var 1) (DE.dr de_non)) (dss_one (ds_raise rfl (takes_of rfl rfl rfl rfl) x_NoText rfl)) dss_nil) (dss_one (ds_ret (DE.dz (de_var 1)))))))
abbrev s__law_bag : Stmt := top 19
theorem sc__law_bag : FnScope ["_law_script", "_law_at", "_law_cell", "_law_great", "_law_primes", "_law_mixed"] ["_law_script", "_law_at"] (defScope s__law_bag) := ⟨rfl, rfl, rfl, by decide +kernel, rfl, by decide +kernel, by decide +kernel⟩
theorem ok__law_bag {P : Program} {w : World} {K : PySem.W.Frag} {mg : Str → Option Value} {base : Heap} {f : Addr} {fd : FuncData} (F : FunD K "_law_bag" "_law_bag" (defArgs s__law_bag) (defBody s__law_bag) (defScope s__law_bag) [] [] f fd) (hm : mg "_law_bag" = some (.ref f)) (BB : Blt mg) :
    Cb P w K mg base 1 "_law_bag" 2 d__law_bag :=
  cb_mk F hm (F.bindsN fun _ _ _ _ _ _ us hl => match us, hl with | [_, _], _ => rfl) (fn_ok F sc__law_bag rfl rfl (by decide) fun cdv A outer s H E hr =>
    (dss_cons (ds_set (i := 2) sc__law_bag.nd rfl (Or.inl rfl) de_int) (dss_cons (ds_if (dt_cmp od_lt (dr_var 1) (DE.dr (de_callB cd_len rfl BB.len (by decide +kernel) (da_cons (dr_var 0) da_nil)))) (dss_one (ds_set (i := 2) sc__law_bag.nd rfl (Or.inl rfl) (de_ix (dr_var 0) (dr_var 1)))) dss_nil) (dss_cons (ds_set (i := 3) sc__law_bag.nd rfl (Or.inl rfl) de_int) (dss_cons (ds_if (dt_cmp od_ge (DE.dr (de_callB cd_abs rfl BB.abs (by decide +kernel) (da_cons (dr_var 2) da_nil))) (DE.dr (de_bin od_pow (DE.dr de_int) (DE.dr de_int)))) (dss_one (ds_set (i := 3) sc__law_bag.nd rfl (Or.inl rfl) (de_callB cd_abs rfl BB.abs (by decide +kernel) (da_cons (dr_var 2) da_nil)))) dss_nil) (dss_cons (ds_set (i := 4) sc__law_bag.nd rfl (Or.inl rfl) (DO.de (do_lst (da_cons (DE.dr de_int) (da_cons (DE.dr de_int) (da_cons (DE.dr de_int) (da_cons (DE.dr de_int) (da_cons (DE.dr de_int) (da_cons (DE.dr de_int) (da_cons (DE.dr de_int) (da_cons (DE.dr de_int) da_nil))))))))))) (dss_cons (ds_set (i := 5) sc__law_bag.nd rfl (Or.inl rfl) (de_bin od_add (DE.dr (de_bin od_add (DE.dr (de_bin od_add (DE.dr (de_bin od_mul (DE.dr (de_bin od_mod (dr_var 2) (DE.dr de_int))) (DE.dr de_int))) (DE.dr (de_bin od_mul (DE.dr (de_bin od_mul (DE.dr de_int) (dr_var 1))) (dr_var 1))))) (DE.dr (de_bin od_mul (DE.dr de_int) (dr_var 1))))) (DE.dr de_int))) (dss_one (ds_ret (DO.dz (do_lst (da_cons (DE.dr (de_var 3)) (da_cons (DE.dr (de_bin od_mod (dr_var 5) (DE.dr (de_ix (dr_var 4) (DE.dr (de_bin od_mod (dr_var 1) (DE.dr de_int))))))) da_nil)))))))))))))
abbrev s__law_take : Stmt := top 20
theorem sc__law_take : FnScope ["_law_bag_here", "_law_many", "_law_digit"] ["_law_bag_here", "_law_many"] (defScope s__law_take) := ⟨rfl, rfl, rfl, by decide +kernel, rfl, by decide +kernel, by decide +kernel⟩
theorem ok__law_take {P : Program} {w : World} {K : PySem.W.Frag} {mg : Str → Option Value} {base : Heap} {f : Addr} {fd : FuncData} (F : FunD K "_law_take" "_law_take" (defArgs s__law_take) (defBody s__law_take) (defScope s__law_take) [] [] f fd) (hm : mg "_law_take" = some (.ref f)) (BB : Blt mg) :
    Cb P w K mg base 1 "_law_take" 2 d__law_take :=
  cb_mk F hm (F.bindsN fun _ _ _ _ _ _ us hl => match us, hl with | [_, _], _ => rfl) (fn_ok F sc__law_take rfl rfl (by decide) fun cdv A outer s H E hr =>
    (dss_cons (ds_if (dt_cmp od_gt (DE.dr (de_ix (dr_var 0) (DE.dr de_int))) (DE.dr de_int)) (dss_cons (ds_set (i := 2) sc__law_take.nd rfl (Or.inl rfl) (de_bin od_mod (DE.dr (de_ix (dr_var 0) (DE.dr de_int))) (dr_var 1))) (dss_cons (ds_setix (de_bin od_fdiv (DE.dr (de_ix (dr_var 0) (DE.dr de_int))) (dr_var 1)) (pv 0) de_int) (dss_one (ds_ret (DE.dz (de_var 2)))))) dss_nil) (dss_cons (ds_setix (de_bin od_mod (DE.dr (de_bin od_add (DE.dr (de_bin od_mul (DE.dr (de_ix (dr_var 0) (DE.dr de_int))) (DE.dr de_int))) (DE.dr de_int))) (DE.dr de_int)) (pv 0) de_int) (dss_one (ds_ret (DE.dz (de_bin od_mod (DE.dr (de_bin od_fdiv (DE.dr (de_bin od_mod (DE.dr (de_bin od_pow (DE.dr (de_ix (dr_var 0) (DE.dr de_int))) (DE.dr de_int))) (DE.dr de_int))) (DE.dr de_int))) (dr_var 1))))))))
abbrev s__law_is_whole : Stmt := top 21
theorem sc__law_is_whole : FnScope ["_law_thing"] ["_law_thing"] (defScope s__law_is_whole) := ⟨rfl, rfl, rfl, by decide +kernel, rfl, by decide +kernel, by decide +kernel⟩
theorem ok__law_is_whole {P : Program} {w : World} {K : PySem.W.Frag} {mg : Str → Option Value} {base : Heap} {f : Addr} {fd : FuncData} (F : FunD K "_law_is_whole" "_law_is_whole" (defArgs s__law_is_whole) (defBody s__law_is_whole) (defScope s__law_is_whole) [] [] f fd) (hm : mg "_law_is_whole" = some (.ref f)) (BB : Blt mg) :
    Cb P w K mg base 1 "_law_is_whole" 1 d__law_is_whole :=
  cb_mk F hm (F.bindsN fun _ _ _ _ _ _ us hl => match us, hl with | [_], _ => rfl) (fn_ok F sc__law_is_whole rfl rfl (by decide) fun cdv A outer s H E hr =>
    (dss_one (ds_ret (DE.dz (DB.de (db_and (DE.db (de_isi kit_int rfl BB.isinstance rfl BB.int (by decide +kernel) (dr_var 0))) (db_one (db_not (DE.db (de_isi kit_bool rfl BB.isinstance rfl BB.bool (by decide +kernel) (dr_var 0)))))))))))
abbrev s__law_shared : Stmt := top 22
theorem sc__law_shared : FnScope ["_law_one", "_law_other"] ["_law_one", "_law_other"] (defScope s__law_shared) := ⟨rfl, rfl, rfl, by decide +kernel, rfl, by decide +kernel, by decide +kernel⟩
theorem ok__law_shared {P : Program} {w : World} {K : PySem.W.Frag} {mg : Str → Option Value} {base : Heap} {f : Addr} {fd : FuncData} (F : FunD K "_law_shared" "_law_shared" (defArgs s__law_shared) (defBody s__law_shared) (defScope s__law_shared) [] [] f fd) (hm : mg "_law_shared" = some (.ref f)) (BB : Blt mg) :
    Cb P w K mg base 1 "_law_shared" 2 d__law_shared :=
  cb_mk F hm (F.bindsN fun _ _ _ _ _ _ us hl => match us, hl with | [_, _], _ => rfl) (fn_ok F sc__law_shared rfl rfl (by decide) fun cdv A outer s H E hr =>
    (dss_cons (ds_par (i := 0) (j := 1) rfl sc__law_shared.nd rfl rfl (by decide) rfl rfl (da_cons (DE.dr (de_callB cd_abs rfl BB.abs (by decide +kernel) (da_cons (dr_var 0) da_nil))) (da_cons (DE.dr (de_callB cd_abs rfl BB.abs (by decide +kernel) (da_cons (dr_var 1) da_nil))) da_nil)) (by rfl)) (dss_cons (ds_while (passes_of rfl) (dt_cmp od_gt (dr_var 1) (DE.dr de_int)) (dss_one (ds_par (i := 0) (j := 1) rfl sc__law_shared.nd rfl rfl (by decide) rfl rfl (da_cons (DE.dr (de_var 1)) (da_cons (DE.dr (de_bin od_mod (dr_var 0) (dr_var 1))) da_nil)) (by rfl)))) (dss_one (ds_ret (DE.dz (de_var 0)))))))
abbrev s__law_low : Stmt := top 23
theorem sc__law_low : FnScope ["_law_a", "_law_b", "_law_c", "_law_common"] ["_law_a", "_law_b", "_law_c"] (defScope s__law_low) := ⟨rfl, rfl, rfl, by decide +kernel, rfl, by decide +kernel, by decide +kernel⟩
theorem ok__law_low {P : Program} {w : World} {K : PySem.W.Frag} {mg : Str → Option Value} {base : Heap} {f : Addr} {fd : FuncData} (F : FunD K "_law_low" "_law_low" (defArgs s__law_low) (defBody s__law_low) (defScope s__law_low) [] [] f fd) (hm : mg "_law_low" = some (.ref f)) (BB : Blt mg) (c__law_shared : Cb P w K mg base 1 "_law_shared" 2 d__law_shared) :
    Cb P w K mg base 2 "_law_low" 3 d__law_low :=
  cb_mk F hm (F.bindsN fun _ _ _ _ _ _ us hl => match us, hl with | [_, _, _], _ => rfl) (fn_ok F sc__law_low rfl rfl (by decide) fun cdv A outer s H E hr =>
    (dss_cons (ds_set (i := 3) sc__law_low.nd rfl (Or.inl rfl) (de_bin od_mul (DE.dr (DZ.de (dz_call (takes_of rfl rfl rfl rfl) c__law_shared (hr.mono (by decide)) rfl (da_cons (DE.dr (DZ.de (dz_call (takes_of rfl rfl rfl rfl) c__law_shared (hr.mono (by decide)) rfl (da_cons (DE.dr (de_var 0)) (da_cons (DE.dr (de_var 1)) da_nil))))) (da_cons (DE.dr (de_var 2)) da_nil))))) (DE.dr (de_ix (DE.dr (DO.de (do_lst (da_cons (DE.dr de_int) (da_cons (DE.dr (de_neg (DE.dr de_int))) da_nil))))) (DE.dr (de_callTy cd_int rfl BB.int (by decide +kernel) (da_cons (DE.dr (de_cmp od_lt (dr_var 2) (DE.dr de_int))) da_nil))))))) (dss_one (ds_ret (DE.dz (de_tup (da_cons (DE.dr (de_bin od_fdiv (dr_var 0) (dr_var 3))) (da_cons (DE.dr (de_bin od_fdiv (dr_var 1) (dr_var 3))) (da_cons (DE.dr (de_bin od_fdiv (dr_var 2) (dr_var 3))) da_nil)))))))))
abbrev s__law_is_number : Stmt := top 24
theorem sc__law_is_number : FnScope ["_law_thing", "_law_one"] ["_law_thing"] (defScope s__law_is_number) := ⟨rfl, rfl, rfl, by decide +kernel, rfl, by decide +kernel, by decide +kernel⟩
theorem ok__law_is_number {P : Program} {w : World} {K : PySem.W.Frag} {mg : Str → Option Value} {base : Heap} {f : Addr} {fd : FuncData} (F : FunD K "_law_is_number" "_law_is_number" (defArgs s__law_is_number) (defBody s__law_is_number) (defScope s__law_is_number) [] [] f fd) (hm : mg "_law_is_number" = some (.ref f)) (BB : Blt mg) (c__law_shared : Cb P w K mg base 1 "_law_shared" 2 d__law_shared) (c__law_is_whole : Cb P w K mg base 1 "_law_is_whole" 1 d__law_is_whole) :
    Cb P w K mg base 2 "_law_is_number" 1 d__law_is_number :=
  cb_mk F hm (F.bindsN fun _ _ _ _ _ _ us hl => match us, hl with | [_], _ => rfl) (fn_ok F sc__law_is_number rfl rfl (by decide) fun cdv A outer s H E hr =>
    (dss_cons (ds_if (DW.dt (dw_or (dt_not (DE.dt (de_isi kit_tuple rfl BB.isinstance rfl BB.tuple (by decide +kernel) (dr_var 0)))) (dw_or (dt_cmp (od_ne hr.units) (DE.dr (de_callB cd_len rfl BB.len (by decide +kernel) (da_cons (dr_var 0) da_nil))) (DE.dr de_int)) (dw_or1 (dt_not (DE.dt (de_callB (cd_all rfl) rfl BB.all (by decide +kernel) (da_cons (DE.dr (DO.de (do_lc [("_law_one", 1)] rfl sc__law_is_number.nd (di_seq (de_var 0)) (blkOk_by (N := ["_law_thing", "_law_one"]) (sc := defScope s__law_is_number) (by decide +kernel)) (fun _ _ _ _ _ => (dg_name (i := 1) sc__law_is_number.nd rfl (by first | exact Or.inl rfl | exact Or.inr rfl))) (fun _ _ _ _ _ => dts_nil) (fun _ _ _ _ _ => (DZ.de (dz_call takes0 c__law_is_whole (hr.mono (by decide)) rfl (da_cons (DE.dr (de_var 1)) da_nil))))))) da_nil)))))))) (dss_one (ds_ret (DE.dz de_bl))) dss_nil) (dss_one (ds_ret (DE.dz (DB.de (db_and (DE.db (de_cmp od_gt (DE.dr (de_ix (dr_var 0) (DE.dr de_int))) (DE.dr de_int))) (db_one (DE.db (de_cmp (od_eq hr.units) (DE.dr (DZ.de (dz_call (takes_of rfl rfl rfl rfl) c__law_shared (hr.mono (by decide)) rfl (da_cons (DE.dr (DZ.de (dz_call (takes_of rfl rfl rfl rfl) c__law_shared (hr.mono (by decide)) rfl (da_cons (DE.dr (de_ix (dr_var 0) (DE.dr de_int))) (da_cons (DE.dr (de_ix (dr_var 0) (DE.dr de_int))) da_nil))))) (da_cons (DE.dr (de_ix (dr_var 0) (DE.dr de_int))) da_nil))))) (DE.dr de_int)))))))))))
abbrev s__law_number : Stmt := top 25
theorem sc__law_number : FnScope ["_law_bag_here", "_law_wide", "_law_c", "_law_way", "_law_a", "_law_b"] ["_law_bag_here"] (defScope s__law_number) := ⟨rfl, rfl, rfl, by decide +kernel, rfl, by decide +kernel, by decide +kernel⟩
theorem ok__law_number {P : Program} {w : World} {K : PySem.W.Frag} {mg : Str → Option Value} {base : Heap} {f : Addr} {fd : FuncData} (F : FunD K "_law_number" "_law_number" (defArgs s__law_number) (defBody s__law_number) (defScope s__law_number) [] [] f fd) (hm : mg "_law_number" = some (.ref f)) (BB : Blt mg) (c__law_low : Cb P w K mg base 2 "_law_low" 3 d__law_low) (c__law_take : Cb P w K mg base 1 "_law_take" 2 d__law_take) :
    Cb P w K mg base 3 "_law_number" 1 d__law_number :=
  cb_mk F hm (F.bindsN fun _ _ _ _ _ _ us hl => match us, hl with | [_], _ => rfl) (fn_ok F sc__law_number rfl rfl (by decide) fun cdv A outer s H E hr =>
    (dss_cons (ds_set (i := 1) sc__law_number.nd rfl (Or.inl rfl) (de_ix (DE.dr (DO.de (do_lst (da_cons (DE.dr de_int) (da_cons (DE.dr de_int) (da_cons (DE.dr de_int) (da_cons (DE.dr de_int) da_nil))))))) (DE.dr (DZ.de (dz_call (takes_of rfl rfl rfl rfl) c__law_take (hr.mono (by decide)) rfl (da_cons (dr_var 0) (da_cons (DE.dr de_int) da_nil))))))) (dss_cons (ds_par (i := 4) (j := 5) rfl sc__law_number.nd rfl rfl (by decide) rfl rfl (da_cons (DE.dr (de_bin od_sub (DE.dr (DZ.de (dz_call (takes_of rfl rfl rfl rfl) c__law_take (hr.mono (by decide)) rfl (da_cons (dr_var 0) (da_cons (DE.dr (de_var 1)) da_nil))))) (DE.dr (de_bin od_fdiv (dr_var 1) (DE.dr de_int))))) (da_cons (DE.dr (de_bin od_sub (DE.dr (DZ.de (dz_call (takes_of rfl rfl rfl rfl) c__law_take (hr.mono (by decide)) rfl (da_cons (dr_var 0) (da_cons (DE.dr (de_var 1)) da_nil))))) (DE.dr (de_bin od_fdiv (dr_var 1) (DE.dr de_int))))) da_nil)) (by rfl)) (dss_cons (ds_set (i := 2) sc__law_number.nd rfl (Or.inl rfl) (de_bin od_add (DE.dr de_int) (DE.dr (DZ.de (dz_call (takes_of rfl rfl rfl rfl) c__law_take (hr.mono (by decide)) rfl (da_cons (dr_var 0) (da_cons (DE.dr (de_bin od_sub (dr_var 1) (DE.dr de_int))) da_nil))))))) (dss_cons (ds_set (i := 3) sc__law_number.nd rfl (Or.inl rfl) (DZ.de (dz_call (takes_of rfl rfl rfl rfl) c__law_take (hr.mono (by decide)) rfl (da_cons (dr_var 0) (da_cons (DE.dr de_int) da_nil))))) (dss_one (ds_ret (dz_call (takes_of rfl rfl rfl rfl) c__law_low (hr.mono (by decide)) rfl (da_cons (DE.dr (de_ix (DE.dr (DO.de (do_lst (da_cons (DE.dr (de_var 4)) (da_cons (DE.dr (de_var 4)) (da_cons (DE.dr (de_var 4)) (da_cons (DE.dr (de_var 4)) (da_cons (DE.dr (de_var 4)) (da_cons (DE.dr (de_var 4)) (da_cons (DE.dr (de_var 4)) (da_cons (DE.dr de_int) da_nil))))))))))) (dr_var 3))) (da_cons (DE.dr (de_ix (DE.dr (DO.de (do_lst (da_cons (DE.dr (de_var 5)) (da_cons (DE.dr (de_var 5)) (da_cons (DE.dr (de_var 5)) (da_cons (DE.dr (de_var 5)) (da_cons (DE.dr (de_var 5)) (da_cons (DE.dr de_int) (da_cons (DE.dr de_int) (da_cons (DE.dr (de_var 5)) da_nil))))))))))) (dr_var 3))) (da_cons (DE.dr (de_ix (DE.dr (DO.de (do_lst (da_cons (DE.dr (de_var 2)) (da_cons (DE.dr (de_var 2)) (da_cons (DE.dr de_int) (da_cons (DE.dr (de_var 2)) (da_cons (DE.dr de_int) (da_cons (DE.dr (de_var 2)) (da_cons (DE.dr de_int) (da_cons (DE.dr (de_var 2)) da_nil))))))))))) (dr_var 3))) da_nil)))))))))))
abbrev s__law_roots : Stmt := top 26
theorem sc__law_roots : FnScope ["_law_b"] ["_law_b"] (defScope s__law_roots) := ⟨rfl, rfl, rfl, by decide +kernel, rfl, by decide +kernel, by decide +kernel⟩
theorem ok__law_roots {P : Program} {w : World} {K : PySem.W.Frag} {mg : Str → Option Value} {base : Heap} {f : Addr} {fd : FuncData} (F : FunD K "_law_roots" "_law_roots" (defArgs s__law_roots) (defBody s__law_roots) (defScope s__law_roots) [] [] f fd) (hm : mg "_law_roots" = some (.ref f)) (BB : Blt mg) :
    Cb P w K mg base 1 "_law_roots" 1 d__law_roots :=
  cb_mk F hm (F.bindsN fun _ _ _ _ _ _ us hl => match us, hl with | [_], _ => rfl) (fn_ok F sc__law_roots rfl rfl (by decide) fun cdv A outer s H E hr =>
    (dss_cons (ds_if (dt_cmp (od_eq hr.units) (dr_var 0) (DE.dr de_int)) (dss_one (ds_ret (DE.dz de_str))) dss_nil) (dss_cons (ds_if (dt_cmp (od_eq hr.units) (dr_var 0) (DE.dr (de_neg (DE.dr de_int)))) (dss_one (ds_ret (DE.dz de_str))) dss_nil) (dss_one (ds_ret (DE.dz (de_bin od_add (DE.dr (de_callTy cd_str rfl BB.str (by decide +kernel) (da_cons (dr_var 0) da_nil))) (DE.dr de_str))))))))
abbrev s__law_text : Stmt := top 27
theorem sc__law_text : FnScope ["_law_x", "_law_text_here", "_law_a", "_law_b", "_law_c"] ["_law_x"] (defScope s__law_text) := ⟨rfl, rfl, rfl, by decide +kernel, rfl, by decide +kernel, by decide +kernel⟩
theorem ok__law_text {P : Program} {w : World} {K : PySem.W.Frag} {mg : Str → Option Value} {base : Heap} {f : Addr} {fd : FuncData} (F : FunD K "_law_text" "_law_text" (defArgs s__law_text) (defBody s__law_text) (defScope s__law_text) [] [] f fd) (hm : mg "_law_text" = some (.ref f)) (BB : Blt mg) (c__law_roots : Cb P w K mg base 1 "_law_roots" 1 d__law_roots) :
    Cb P w K mg base 2 "_law_text" 1 d__law_text :=
  cb_mk F hm (F.bindsN fun _ _ _ _ _ _ us hl => match us, hl with | [_], _ => rfl) (fn_ok F sc__law_text rfl rfl (by decide) fun cdv A outer s H E hr =>
    (dss_cons (ds_asg (de_var 0) (dg_tup rfl (dgs_cons (dg_name (i := 2) sc__law_text.nd rfl (Or.inl rfl)) (dgs_cons (dg_name (i := 3) sc__law_text.nd rfl (Or.inl rfl)) (dgs_cons (dg_name (i := 4) sc__law_text.nd rfl (Or.inl rfl)) dgs_nil))))) (dss_cons (ds_set (i := 1) sc__law_text.nd rfl (Or.inl rfl) (de_callTy cd_str rfl BB.str (by decide +kernel) (da_cons (dr_var 2) da_nil))) (dss_cons (ds_if (DW.dt (dw_and (dt_cmp (od_ne hr.units) (dr_var 3) (DE.dr de_int)) (dw_and1 (dt_cmp (od_eq hr.units) (dr_var 2) (DE.dr de_int))))) (dss_one (ds_set (i := 1) sc__law_text.nd rfl (Or.inl rfl) (DZ.de (dz_call (takes_of rfl rfl rfl rfl) c__law_roots (hr.mono (by decide)) rfl (da_cons (DE.dr (de_var 3)) da_nil))))) (dss_one (ds_if (dt_cmp (od_ne hr.units) (dr_var 3) (DE.dr de_int)) (dss_cons (ds_set (i := 1) sc__law_text.nd rfl (Or.inl rfl) (de_if (dt_cmp od_gt (dr_var 3) (DE.dr de_int)) (de_bin od_add (DE.dr (de_bin od_add (DE.dr (de_callTy cd_str rfl BB.str (by decide +kernel) (da_cons (dr_var 2) da_nil))) (DE.dr de_str))) (DE.dr (DZ.de (dz_call (takes_of rfl rfl rfl rfl) c__law_roots (hr.mono (by decide)) rfl (da_cons (DE.dr (de_var 3)) da_nil))))) (de_bin od_add (DE.dr (de_callTy cd_str rfl BB.str (by decide +kernel) (da_cons (dr_var 2) da_nil))) (DE.dr (DZ.de (dz_call (takes_of rfl rfl rfl rfl) c__law_roots (hr.mono (by decide)) rfl (da_cons (DE.dr (de_var 3)) da_nil))))))) (dss_one (ds_if (dt_cmp (od_ne hr.units) (dr_var 4) (DE.dr de_int)) (dss_one (ds_set (i := 1) sc__law_text.nd rfl (Or.inl rfl) (de_bin od_add (DE.dr (de_bin od_add (DE.dr de_str) (dr_var 1))) (DE.dr de_str)))) dss_nil))) dss_nil))) (dss_one (ds_ret (DE.dz (de_if (dt_cmp (od_eq hr.units) (dr_var 4) (DE.dr de_int)) (de_var 1) (de_bin od_add (DE.dr (de_bin od_add (dr_var 1) (DE.dr de_str))) (DE.dr (de_callTy cd_str rfl BB.str (by decide +kernel) (da_cons (dr_var 4) da_nil))))))))))))
abbrev s__law_digits : Stmt := top 29
theorem sc__law_digits : FnScope ["_law_bag_here", "_law_wide", "_law_found", "_law_turn"] ["_law_bag_here", "_law_wide"] (defScope s__law_digits) := ⟨rfl, rfl, rfl, by decide +kernel, rfl, by decide +kernel, by decide +kernel⟩
theorem ok__law_digits {P : Program} {w : World} {K : PySem.W.Frag} {mg : Str → Option Value} {base : Heap} {f : Addr} {fd : FuncData} (F : FunD K "_law_digits" "_law_digits" (defArgs s__law_digits) (defBody s__law_digits) (defScope s__law_digits) [] [] f fd) (hm : mg "_law_digits" = some (.ref f)) (BB : Blt mg) (c__law_take : Cb P w K mg base 1 "_law_take" 2 d__law_take) :
    Cb P w K mg base 2 "_law_digits" 2 d__law_digits :=
  cb_mk F hm (F.bindsN fun _ _ _ _ _ _ us hl => match us, hl with | [_, _], _ => rfl) (fn_ok F sc__law_digits rfl rfl (by decide) fun cdv A outer s H E hr =>
    (dss_cons (ds_set (i := 2) sc__law_digits.nd rfl (Or.inl rfl) de_int) (dss_cons (ds_for (passes_of rfl) rfl (di_range1 rfl BB.range (da_cons (DE.dr de_int) da_nil)) (dg_name (i := 3) sc__law_digits.nd rfl (Or.inl rfl)) (dss_one (ds_set (i := 2) sc__law_digits.nd rfl (Or.inl rfl) (de_bin od_add (DE.dr (de_bin od_mul (dr_var 2) (DE.dr (de_bin od_pow (DE.dr de_int) (DE.dr de_int))))) (DE.dr (DZ.de (dz_call (takes_of rfl rfl rfl rfl) c__law_take (hr.mono (by decide)) rfl (da_cons (dr_var 0) (da_cons (DE.dr (de_bin od_pow (DE.dr de_int) (DE.dr de_int))) da_nil))))))))) (dss_one (ds_ret (DE.dz (de_bin od_mod (dr_var 2) (dr_var 1))))))))
abbrev s__law_any_number : Stmt := top 28
theorem sc__law_any_number : FnScope ["_law_bag_here", "_law_way", "_law_wide", "_law_turn", "_law_c", "_law_a", "_law_b", "_law_k"] ["_law_bag_here"] (defScope s__law_any_number) := ⟨rfl, rfl, rfl, by decide +kernel, rfl, by decide +kernel, by decide +kernel⟩
theorem ok__law_any_number {P : Program} {w : World} {K : PySem.W.Frag} {mg : Str → Option Value} {base : Heap} {f : Addr} {fd : FuncData} (F : FunD K "_law_any_number" "_law_any_number" (defArgs s__law_any_number) (defBody s__law_any_number) (defScope s__law_any_number) [] [] f fd) (hm : mg "_law_any_number" = some (.ref f)) (BB : Blt mg) (c__law_take : Cb P w K mg base 1 "_law_take" 2 d__law_take) (c__law_low : Cb P w K mg base 2 "_law_low" 3 d__law_low) (c__law_digits : Cb P w K mg base 2 "_law_digits" 2 d__law_digits) (c__law_number : Cb P w K mg base 3 "_law_number" 1 d__law_number) :
    Cb P w K mg base 4 "_law_any_number" 1 d__law_any_number :=
  cb_mk F hm (F.bindsN fun _ _ _ _ _ _ us hl => match us, hl with | [_], _ => rfl) (fn_ok F sc__law_any_number rfl rfl (by decide) fun cdv A outer s H E hr =>
    (dss_cons (ds_set (i := 1) sc__law_any_number.nd rfl (Or.inl rfl) (DZ.de (dz_call (takes_of rfl rfl rfl rfl) c__law_take (hr.mono (by decide)) rfl (da_cons (dr_var 0) (da_cons (DE.dr de_int) da_nil))))) (dss_cons (ds_if (dt_cmp od_lt (dr_var 1) (DE.dr de_int)) (dss_one (ds_ret (dz_call (takes_of rfl rfl rfl rfl) c__law_number (hr.mono (by decide)) rfl (da_cons (dr_var 0) da_nil)))) dss_nil) (dss_cons (ds_set (i := 2) sc__law_any_number.nd rfl (Or.inr rfl) de_int) (dss_cons (ds_for (passes_of rfl) rfl (di_range1 rfl BB.range (da_cons (DE.dr (de_ix (DE.dr (DO.de (do_lst (da_cons (DE.dr de_int) (da_cons (DE.dr (DZ.de (dz_call (takes_of rfl rfl rfl rfl) c__law_take (hr.mono (by decide)) rfl (da_cons (dr_var 0) (da_cons (DE.dr de_int) da_nil))))) da_nil))))) (DE.dr (de_bin od_sub (DE.dr de_int) (dr_var 1))))) da_nil)) (dg_name (i := 3) sc__law_any_number.nd rfl (Or.inl rfl)) (dss_one (ds_set (i := 2) sc__law_any_number.nd rfl (Or.inr rfl) (de_bin od_mul (dr_var 2) (DE.dr de_int))))) (dss_cons (ds_asg (DO.de (do_lc [("_law_k", 7)] rfl sc__law_any_number.nd (di_range1 rfl BB.range (da_cons (DE.dr de_int) da_nil)) (blkOk_by (N := ["_law_bag_here", "_law_way", "_law_wide", "_law_turn", "_law_c", "_law_a", "_law_b", "_law_k"]) (sc := defScope s__law_any_number) (by decide +kernel)) (fun _ _ _ _ _ => (dg_name (i := 7) sc__law_any_number.nd rfl (by first | exact Or.inl rfl | exact Or.inr rfl))) (fun _ _ _ _ _ => dts_nil) (fun _ _ _ _ _ => (de_bin od_mul (DE.dr (DZ.de (dz_call takes0 c__law_digits (hr.mono (by decide)) rfl (da_cons (dr_var 0) (da_cons (DE.dr (de_var 2)) da_nil))))) (DE.dr (de_bin od_sub (DE.dr de_int) (DE.dr (de_bin od_mul (DE.dr de_int) (DE.dr (DZ.de (dz_call takes0 c__law_take (hr.mono (by decide)) rfl (da_cons (dr_var 0) (da_cons (DE.dr de_int) da_nil))))))))))))) (dg_tup rfl (dgs_cons (dg_name (i := 5) sc__law_any_number.nd rfl (Or.inl rfl)) (dgs_cons (dg_name (i := 6) sc__law_any_number.nd rfl (Or.inl rfl)) dgs_nil)))) (dss_cons (ds_set (i := 4) sc__law_any_number.nd rfl (Or.inl rfl) (de_bin od_add (DE.dr de_int) (DE.dr (de_bin od_mod (DE.dr (DZ.de (dz_call (takes_of rfl rfl rfl rfl) c__law_digits (hr.mono (by decide)) rfl (da_cons (dr_var 0) (da_cons (DE.dr (de_var 2)) da_nil))))) (DE.dr (de_bin od_sub (dr_var 2) (DE.dr de_int))))))) (dss_one (ds_ret (dz_call (takes_of rfl rfl rfl rfl) c__law_low (hr.mono (by decide)) rfl (da_cons (DE.dr (de_ix (DE.dr (DO.de (do_lst (da_cons (DE.dr (de_var 5)) (da_cons (DE.dr (de_var 5)) (da_cons (DE.dr de_int) (da_cons (DE.dr (de_var 5)) da_nil))))))) (DE.dr (DZ.de (dz_call (takes_of rfl rfl rfl rfl) c__law_take (hr.mono (by decide)) rfl (da_cons (dr_var 0) (da_cons (DE.dr de_int) da_nil))))))) (da_cons (DE.dr (de_ix (DE.dr (DO.de (do_lst (da_cons (DE.dr (de_var 6)) (da_cons (DE.dr de_int) (da_cons (DE.dr (de_var 6)) (da_cons (DE.dr (de_neg (DE.dr de_int))) (da_cons (DE.dr de_int) da_nil)))))))) (DE.dr (DZ.de (dz_call (takes_of rfl rfl rfl rfl) c__law_take (hr.mono (by decide)) rfl (da_cons (dr_var 0) (da_cons (DE.dr de_int) da_nil))))))) (da_cons (DE.dr (de_ix (DE.dr (DO.de (do_lst (da_cons (DE.dr (de_var 4)) (da_cons (DE.dr de_int) da_nil))))) (DE.dr (DZ.de (dz_call (takes_of rfl rfl rfl rfl) c__law_take (hr.mono (by decide)) rfl (da_cons (dr_var 0) (da_cons (DE.dr de_int) da_nil))))))) da_nil)))))))))))))
abbrev s_law : Stmt := top 30
theorem sc_law : FnScope ["_law_script", "_law_ahead", "_law_k", "_law_bag_here", "_law_turn", "_law_x", "_law_text_here", "_law_told"] ["_law_script"] (defScope s_law) := ⟨rfl, rfl, rfl, by decide +kernel, rfl, by decide +kernel, by decide +kernel⟩
theorem ok_law_fn {P : Program} {w : World} {K : PySem.W.Frag} {mg : Str → Option Value} {base : Heap} {f : Addr} {fd : FuncData} (F : FunD K "law" "law" (defArgs s_law) (defBody s_law) (defScope s_law) [] [] f fd) (BB : Blt mg) (c_read_number : Cb P w K mg base 6 "read_number" 1 d_read_number) (c_show_number : Cb P w K mg base 2 "show_number" 1 d_show_number) (c__law_is_number : Cb P w K mg base 2 "_law_is_number" 1 d__law_is_number) (c__law_text : Cb P w K mg base 2 "_law_text" 1 d__law_text) (c__law_any_number : Cb P w K mg base 4 "_law_any_number" 1 d__law_any_number) (c__law_bag : Cb P w K mg base 1 "_law_bag" 2 d__law_bag) :
    FnOk P w K mg base (L2.CX P w) 7 f fd ["_law_script"] (spG K mg 1 d_law) :=
  fn_ok F sc_law rfl rfl (by decide) fun cdv A outer s H E hr =>
    (dss_cons (ds_setO (i := 1) sc_law.nd rfl (Or.inl rfl) (do_lst da_nil)) (dss_cons (ds_for (passes_of rfl) rfl (di_range1 rfl BB.range (da_cons (DE.dr (de_callB (cd_max rfl) rfl BB.max (by decide +kernel) (da_cons (DE.dr de_int) (da_cons (DE.dr (de_callB (cd_min rfl) rfl BB.min (by decide +kernel) (da_cons (DE.dr de_int) (da_cons (DE.dr (de_callB cd_len rfl BB.len (by decide +kernel) (da_cons (dr_var 0) da_nil))) da_nil)))) da_nil)))) da_nil)) (dg_name (i := 2) sc_law.nd rfl (Or.inl rfl)) (dss_cons (ds_setO (i := 3) sc_law.nd rfl (Or.inl rfl) (DZ.do_ (dz_call (takes_of rfl rfl rfl rfl) c__law_bag (hr.mono (by decide)) rfl (da_cons (DE.dr (de_var 0)) (da_cons (DE.dr (de_var 2)) da_nil))))) (dss_one (ds_for (passes_of rfl) rfl (di_range1 rfl BB.range (da_cons (DE.dr de_int) da_nil)) (dg_name (i := 4) sc_law.nd rfl (Or.inl rfl)) (dss_cons (ds_set (i := 5) sc_law.nd rfl (Or.inl rfl) (DZ.de (dz_call (takes_of rfl rfl rfl rfl) c__law_any_number (hr.mono (by decide)) rfl (da_cons (dr_var 3) da_nil)))) (dss_cons (ds_set (i := 6) sc_law.nd rfl (Or.inl rfl) (DZ.de (dz_call (takes_of rfl rfl rfl rfl) c_show_number (hr.mono (by decide)) rfl (da_cons (DE.dr (de_var 5)) da_nil)))) (dss_cons (ds_if (DW.dt (dw_or (dt_not (DE.dt (de_isi kit_str rfl BB.isinstance rfl BB.str (by decide +kernel) (dr_var 6)))) (dw_or1 (dt_cmp (od_ne hr.units) (dr_var 6) (DE.dr (DZ.de (dz_call (takes_of rfl rfl rfl rfl) c__law_text (hr.mono (by decide)) rfl (da_cons (DE.dr (de_var 5)) da_nil)))))))) (dss_one (ds_ret (DE.dz de_bl))) dss_nil) (dss_cons (ds_set (i := 7) sc_law.nd rfl (Or.inl rfl) (DZ.de (dz_call (takes_of rfl rfl rfl rfl) c_read_number (hr.mono (by decide)) rfl (da_cons (DE.dr (de_var 6)) da_nil)))) (dss_cons (ds_if (DW.dt (dw_or (dt_not (DE.dt (DZ.de (dz_call (takes_of rfl rfl rfl rfl) c__law_is_number (hr.mono (by decide)) rfl (da_cons (DE.dr (de_var 7)) da_nil))))) (dw_or1 (dt_cmp (od_ne hr.units) (dr_var 7) (dr_var 5))))) (dss_one (ds_ret (DE.dz de_bl))) dss_nil) (dss_one (ds_expr (DE.dz (de_meth PySem.F.slot_list_append PySem.F.type_list_append md_append (dr_var 1) (pv 1) (da_cons (DE.dr (de_tup (da_cons (DE.dr (de_var 5)) (da_cons (DE.dr (de_var 6)) da_nil)))) da_nil)))))))))))))) (dss_cons (ds_for (passes_of rfl) rfl (di_seq (de_var 1)) (dg_tup rfl (dgs_cons (dg_name (i := 5) sc_law.nd rfl (Or.inl rfl)) (dgs_cons (dg_name (i := 6) sc_law.nd rfl (Or.inl rfl)) dgs_nil))) (dss_one (ds_if (DW.dt (dw_or (dt_cmp (od_ne hr.units) (DE.dr (DZ.de (dz_call (takes_of rfl rfl rfl rfl) c_show_number (hr.mono (by decide)) rfl (da_cons (DE.dr (de_var 5)) da_nil)))) (dr_var 6)) (dw_or1 (dt_cmp (od_ne hr.units) (DE.dr (DZ.de (dz_call (takes_of rfl rfl rfl rfl) c_read_number (hr.mono (by decide)) rfl (da_cons (DE.dr (de_var 6)) da_nil)))) (dr_var 5))))) (dss_one (ds_ret (DE.dz de_bl))) dss_nil))) (dss_one (ds_ret (DE.dz (DB.de (db_and (DE.db (de_cmp (od_eq hr.units) (DE.dr (DZ.de (dz_call (takes_of rfl rfl rfl rfl) c_show_number (hr.mono (by decide)) rfl (da_cons (DE.dr (de_tup (da_cons (DE.dr de_int) (da_cons (DE.dr (de_neg (DE.dr de_int))) (da_cons (DE.dr de_int) da_nil))))) da_nil)))) (DE.dr de_str))) (db_and (DE.db (de_cmp (od_eq hr.units) (DE.dr (DZ.de (dz_call (takes_of rfl rfl rfl rfl) c_show_number (hr.mono (by decide)) rfl (da_cons (DE.dr (de_tup (da_cons (DE.dr de_int) (da_cons (DE.dr (de_neg (DE.dr de_int))) (da_cons (DE.dr de_int) da_nil))))) da_nil)))) (DE.dr de_str))) (db_one (DE.db (de_cmp (od_eq hr.units) (DE.dr (DZ.de (dz_call (takes_of rfl rfl rfl rfl) c_read_number (hr.mono (by decide)) rfl (da_cons (DE.dr de_str) da_nil)))) (DE.dr (de_tup (da_cons (DE.dr de_int) (da_cons (DE.dr de_int) (da_cons (DE.dr de_int) da_nil)))))))))))))))))

end My
end
section
set_option maxHeartbeats 4000000
namespace My
open PySem hiding ret
open PySem.Spec L2 DL TL
open PyProof.Rows hiding St
/-! ### draws -/
def GB (o : Oo) : Prop := ∃ g m : Int, o = .l [.int g, .int m] ∧ 0 ≤ g ∧ 0 ≤ m ∧ m < 2 ^ 31
theorem take_ok {o : Oo} (h : GB o) {n : Int} (hn : 1 ≤ n) (hn2 : n < 2 ^ 62) : ∃ (r : Int) (o' : Oo), d__law_take [.own true o, .d (.int n)] = some (.ok (.d (.int r)) [.own true o', .un]) ∧ 0 ≤ r ∧ r < n ∧ GB o' := by
  obtain ⟨g, m, rfl, hg, hm, hm2⟩ := h
  have hn0 : n ≠ 0 := by omega
  have hd : divOk g n := divOk_of (n := 62) hn0 (by omega) (by omega)
  by_cases h0 : 0 < g
  · refine ⟨g % n, .l [.int (g / n), .int m], ?_, Int.emod_nonneg _ hn0, Int.emod_lt_of_pos _ (by omega), _, _, rfl, Int.ediv_nonneg hg (by omega), hm, hm2⟩
    unfold d__law_take b__law_take
    iterate 3 (try (simp only [Int.cast_ofNat_Int, Int.natCast_zero, Int.natCast_one, ev_compL0, ev_compL1, ev_mTurn, ev_mComp, ev_wipe0, ev_wipe1, ev_rest0, ev_rest1, ev_isOwn0, ev_isOwn1, ev_con0, ev_con1, ev_all, ev_any, ev_bools0, ev_bools1, List.all_cons, List.all_nil, List.any_cons, List.any_nil, id_eq, ev_bnd, ev_ret, ev_fail, ev_lift, ev_lift0, ev_opnd, ev_opnds, ev_slD, ev_ra, ev_rv, ev_mBin, ev_mBinO, ev_dr, ev_dz, ev_doz, ev_ode, ev_ac, ev_mB1, ev_mBO, ev_opndsL, ev_rsvs0, ev_rsvs1, ev_rsvd, ev_rsvs, ev_bindS, ev_mTrue, ev_mB, ev_mAnd, ev_mOr, ev_mNot, ev_mIf, ev_mTup, ev_mLst, ev_argsD0, ev_argsD1, ev_vals, ev_mRet, ev_sto, ev_sto2, ev_mPar2, ev_mPar3, ev_gN, ev_gTt, ev_gTl, ev_tgt0, ev_tgt1, ev_gF, ev_fzd, ev_fzo, ev_mOwn, ev_mOut, ev_mIsI, ev_mNeg, ev_opNeg, ev_mSl, ev_mSlL, ev_slcT, ev_slcL, ev_mPart, ev_mRev, ev_mStr1, ev_mChain, ev_mFun, ev_mask0, ev_mask1, ev_mk1o, ev_mk1f, ev_mk1d, ev_mk1u, ev_mCall, ev_lend0, ev_lend1, ev_lend2, ev_noS0, ev_noSd, ev_noSs, ev_back, ev_anyS0, ev_anySd, ev_anySs, ev_backF0, ev_backF1, ev_back1o, ev_back1d, ev_back1u, ev_got0, ev_gotd, ev_gots, ev_mItems, ev_itemsL, ev_itemsT, ev_mSigns, ev_mMeth, ev_chkL, ev_updO, ev_gAppend, ev_mSetIx, ev_gSet, ev_mRng, ev_rg1, ev_rg2, ev_mFor, ev_raise, ev_cI, ev_add, ev_sub, ev_abs, ev_max, ev_min, ev_inti, ev_intb, ev_lenL, ev_lenT, ev_lenS, ev_tupL, ev_tupT, ev_lstL, ev_lstT, ev_ixT, ev_ixL, ev_ixS, ev_at0, ev_at1, ev_at2, ev_at3, ev_at4, ev_at5, ev_at6, ev_at7, ev_ixN0, ev_ixN1, ev_is, ev_isnot, ev_isb, ev_isnotb, ev_addL, opEq_int, opNe_int, mSeq_def, isI, tyN, isN, opLt, opLe, opGt, opGe,
    List.getElem?_cons_zero, List.getElem?_cons_succ, List.getElem?_nil, List.set_cons_zero, List.set_cons_succ, List.length_cons, List.length_nil, List.cons_append, List.nil_append, List.replicate, List.append_nil, decide_true, decide_false, Int.reduceLT, Int.reduceLE, Int.reduceGT, Int.reduceGE, Int.reduceEq, Int.reduceNe, Int.reduceAdd, Int.reduceSub, Int.reduceMul, Int.reduceNeg, Int.reduceToNat, Int.reducePow, Nat.reduceAdd, Nat.reduceLT, Nat.reduceLeDiff, Nat.reduceEqDiff, Nat.reduceBNe, Nat.reduceBEq, gt_iff_lt, ge_iff_le, Bool.and_true, Bool.true_and, Bool.false_and, Bool.and_false, String.reduceBEq, Bool.or_false, Bool.or_true, Bool.true_or, Bool.false_or, and_true, true_and, not_true_eq_false, not_false_eq_true, ne_eq, true_or, or_true, false_or, or_false, and_false, false_and, if_true, if_false, Bool.not_true, Bool.not_false, reduceCtorEq, opMod_int hn0, opFdiv_int hd, h0, fmod_pos (show 0 ≤ n by omega), fdiv_pos (show 0 ≤ n by omega)]))
  · have e0 : g = 0 := by omega
    subst e0
    have q1 : 0 ≤ (m * 48271 + 2531011) % 2147483647 := Int.emod_nonneg _ (by omega)
    have q2 : (m * 48271 + 2531011) % 2147483647 < 2147483647 := Int.emod_lt_of_pos _ (by omega)
    have hmul : mulOk m 48271 := mulOk_of (n := 31) (m := 20) (by omega) (by decide) (by omega)
    generalize hk : (m * 48271 + 2531011) % 2147483647 = k at q1 q2
    have hp : 0 ≤ (3 : Int) ∧ (3 : Int) ≤ 1000000 ∧ k.natAbs < 2 ^ 64 := ⟨by decide, by decide, by omega⟩
    have q3 : 0 ≤ k ^ 3 % 2147483629 := Int.emod_nonneg _ (by omega)
    have hd2 : divOk (k ^ 3 % 2147483629) 64 := divOk_of (n := 7) (by decide) (by decide) (by omega)
    have q4 : 0 ≤ k ^ 3 % 2147483629 / 64 := Int.ediv_nonneg q3 (by omega)
    refine ⟨k ^ 3 % 2147483629 / 64 % n, .l [.int 0, .int k], ?_, Int.emod_nonneg _ hn0, Int.emod_lt_of_pos _ (by omega), _, _, rfl, by omega, q1, by omega⟩
    unfold d__law_take b__law_take
    iterate 3 (try (simp only [Int.cast_ofNat_Int, Int.natCast_zero, Int.natCast_one, ev_compL0, ev_compL1, ev_mTurn, ev_mComp, ev_wipe0, ev_wipe1, ev_rest0, ev_rest1, ev_isOwn0, ev_isOwn1, ev_con0, ev_con1, ev_all, ev_any, ev_bools0, ev_bools1, List.all_cons, List.all_nil, List.any_cons, List.any_nil, id_eq, ev_bnd, ev_ret, ev_fail, ev_lift, ev_lift0, ev_opnd, ev_opnds, ev_slD, ev_ra, ev_rv, ev_mBin, ev_mBinO, ev_dr, ev_dz, ev_doz, ev_ode, ev_ac, ev_mB1, ev_mBO, ev_opndsL, ev_rsvs0, ev_rsvs1, ev_rsvd, ev_rsvs, ev_bindS, ev_mTrue, ev_mB, ev_mAnd, ev_mOr, ev_mNot, ev_mIf, ev_mTup, ev_mLst, ev_argsD0, ev_argsD1, ev_vals, ev_mRet, ev_sto, ev_sto2, ev_mPar2, ev_mPar3, ev_gN, ev_gTt, ev_gTl, ev_tgt0, ev_tgt1, ev_gF, ev_fzd, ev_fzo, ev_mOwn, ev_mOut, ev_mIsI, ev_mNeg, ev_opNeg, ev_mSl, ev_mSlL, ev_slcT, ev_slcL, ev_mPart, ev_mRev, ev_mStr1, ev_mChain, ev_mFun, ev_mask0, ev_mask1, ev_mk1o, ev_mk1f, ev_mk1d, ev_mk1u, ev_mCall, ev_lend0, ev_lend1, ev_lend2, ev_noS0, ev_noSd, ev_noSs, ev_back, ev_anyS0, ev_anySd, ev_anySs, ev_backF0, ev_backF1, ev_back1o, ev_back1d, ev_back1u, ev_got0, ev_gotd, ev_gots, ev_mItems, ev_itemsL, ev_itemsT, ev_mSigns, ev_mMeth, ev_chkL, ev_updO, ev_gAppend, ev_mSetIx, ev_gSet, ev_mRng, ev_rg1, ev_rg2, ev_mFor, ev_raise, ev_cI, ev_add, ev_sub, ev_abs, ev_max, ev_min, ev_inti, ev_intb, ev_lenL, ev_lenT, ev_lenS, ev_tupL, ev_tupT, ev_lstL, ev_lstT, ev_ixT, ev_ixL, ev_ixS, ev_at0, ev_at1, ev_at2, ev_at3, ev_at4, ev_at5, ev_at6, ev_at7, ev_ixN0, ev_ixN1, ev_is, ev_isnot, ev_isb, ev_isnotb, ev_addL, opEq_int, opNe_int, mSeq_def, isI, tyN, isN, opLt, opLe, opGt, opGe,
    List.getElem?_cons_zero, List.getElem?_cons_succ, List.getElem?_nil, List.set_cons_zero, List.set_cons_succ, List.length_cons, List.length_nil, List.cons_append, List.nil_append, List.replicate, List.append_nil, decide_true, decide_false, Int.reduceLT, Int.reduceLE, Int.reduceGT, Int.reduceGE, Int.reduceEq, Int.reduceNe, Int.reduceAdd, Int.reduceSub, Int.reduceMul, Int.reduceNeg, Int.reduceToNat, Int.reducePow, Nat.reduceAdd, Nat.reduceLT, Nat.reduceLeDiff, Nat.reduceEqDiff, Nat.reduceBNe, Nat.reduceBEq, gt_iff_lt, ge_iff_le, Bool.and_true, Bool.true_and, Bool.false_and, Bool.and_false, String.reduceBEq, Bool.or_false, Bool.or_true, Bool.true_or, Bool.false_or, and_true, true_and, not_true_eq_false, not_false_eq_true, ne_eq, true_or, or_true, false_or, or_false, and_false, false_and, if_true, if_false, Bool.not_true, Bool.not_false, reduceCtorEq, opMul_int hmul, opMod_int hn0, opMod_int (show (2147483647 : Int) ≠ 0 by decide), opMod_int (show (2147483629 : Int) ≠ 0 by decide), fmod_pos (show (0 : Int) ≤ 2147483647 by decide), fmod_pos (show (0 : Int) ≤ 2147483629 by decide), hk, opPow_int hp, opFdiv_int hd2, fdiv_pos (show (0 : Int) ≤ 64 by decide), fmod_pos (show 0 ≤ n by omega)]))

/-! ### the bag -/
theorem eight {x : Int} (h0 : 0 ≤ x) (h8 : x < 8) : x = 0 ∨ x = 1 ∨ x = 2 ∨ x = 3 ∨ x = 4 ∨ x = 5 ∨ x = 6 ∨ x = 7 := by omega
theorem bag_ok (ns : List Int) (k : Nat) (hk : k < 64) : ∃ (o : Oo) (ρ' : Fr), d__law_bag [.d (scrD ns), .d (.int k)] = some (.ok (.own false o) ρ') ∧ GB o := by
  obtain ⟨c, hc⟩ : ∃ c : Int, mIf (mTrue (mBin opLt (ra 1) (dr (mB1 bLen (ac (ra 0) (DL.ret [])))))) (bnd (mIx (ra 0) (ra 1)) fun x => sto 2 (.d x)) (DL.ret .nx) [.d (scrD ns), .d (.int k), .d (.int 0), .un, .un, .un] = some (.ok .nx [.d (scrD ns), .d (.int k), .d (.int c), .un, .un, .un]) := by
    by_cases h : k < ns.length
    · refine ⟨ns[k], ?_⟩
      have hg : ns[k]? = some ns[k] := List.getElem?_eq_getElem h
      iterate 3 (try (simp only [Int.cast_ofNat_Int, Int.natCast_zero, Int.natCast_one, ev_compL0, ev_compL1, ev_mTurn, ev_mComp, ev_wipe0, ev_wipe1, ev_rest0, ev_rest1, ev_isOwn0, ev_isOwn1, ev_con0, ev_con1, ev_all, ev_any, ev_bools0, ev_bools1, List.all_cons, List.all_nil, List.any_cons, List.any_nil, id_eq, ev_bnd, ev_ret, ev_fail, ev_lift, ev_lift0, ev_opnd, ev_opnds, ev_slD, ev_ra, ev_rv, ev_mBin, ev_mBinO, ev_dr, ev_dz, ev_doz, ev_ode, ev_ac, ev_mB1, ev_mBO, ev_opndsL, ev_rsvs0, ev_rsvs1, ev_rsvd, ev_rsvs, ev_bindS, ev_mTrue, ev_mB, ev_mAnd, ev_mOr, ev_mNot, ev_mIf, ev_mTup, ev_mLst, ev_argsD0, ev_argsD1, ev_vals, ev_mRet, ev_sto, ev_sto2, ev_mPar2, ev_mPar3, ev_gN, ev_gTt, ev_gTl, ev_tgt0, ev_tgt1, ev_gF, ev_fzd, ev_fzo, ev_mOwn, ev_mOut, ev_mIsI, ev_mNeg, ev_opNeg, ev_mSl, ev_mSlL, ev_slcT, ev_slcL, ev_mPart, ev_mRev, ev_mStr1, ev_mChain, ev_mFun, ev_mask0, ev_mask1, ev_mk1o, ev_mk1f, ev_mk1d, ev_mk1u, ev_mCall, ev_lend0, ev_lend1, ev_lend2, ev_noS0, ev_noSd, ev_noSs, ev_back, ev_anyS0, ev_anySd, ev_anySs, ev_backF0, ev_backF1, ev_back1o, ev_back1d, ev_back1u, ev_got0, ev_gotd, ev_gots, ev_mItems, ev_itemsL, ev_itemsT, ev_mSigns, ev_mMeth, ev_chkL, ev_updO, ev_gAppend, ev_mSetIx, ev_gSet, ev_mRng, ev_rg1, ev_rg2, ev_mFor, ev_raise, ev_cI, ev_add, ev_sub, ev_abs, ev_max, ev_min, ev_inti, ev_intb, ev_lenL, ev_lenT, ev_lenS, ev_tupL, ev_tupT, ev_lstL, ev_lstT, ev_ixT, ev_ixL, ev_ixS, ev_at0, ev_at1, ev_at2, ev_at3, ev_at4, ev_at5, ev_at6, ev_at7, ev_ixN0, ev_ixN1, ev_is, ev_isnot, ev_isb, ev_isnotb, ev_addL, opEq_int, opNe_int, mSeq_def, isI, tyN, isN, opLt, opLe, opGt, opGe,
    List.getElem?_cons_zero, List.getElem?_cons_succ, List.getElem?_nil, List.set_cons_zero, List.set_cons_succ, List.length_cons, List.length_nil, List.cons_append, List.nil_append, List.replicate, List.append_nil, decide_true, decide_false, Int.reduceLT, Int.reduceLE, Int.reduceGT, Int.reduceGE, Int.reduceEq, Int.reduceNe, Int.reduceAdd, Int.reduceSub, Int.reduceMul, Int.reduceNeg, Int.reduceToNat, Int.reducePow, Nat.reduceAdd, Nat.reduceLT, Nat.reduceLeDiff, Nat.reduceEqDiff, Nat.reduceBNe, Nat.reduceBEq, gt_iff_lt, ge_iff_le, Bool.and_true, Bool.true_and, Bool.false_and, Bool.and_false, String.reduceBEq, Bool.or_false, Bool.or_true, Bool.true_or, Bool.false_or, and_true, true_and, not_true_eq_false, not_false_eq_true, ne_eq, true_or, or_true, false_or, or_false, and_false, false_and, if_true, if_false, Bool.not_true, Bool.not_false, reduceCtorEq, at_nat, List.getElem?_map, hg, Int.ofNat_lt, h, Option.map_some]))
    · refine ⟨0, ?_⟩
      iterate 3 (try (simp only [Int.cast_ofNat_Int, Int.natCast_zero, Int.natCast_one, ev_compL0, ev_compL1, ev_mTurn, ev_mComp, ev_wipe0, ev_wipe1, ev_rest0, ev_rest1, ev_isOwn0, ev_isOwn1, ev_con0, ev_con1, ev_all, ev_any, ev_bools0, ev_bools1, List.all_cons, List.all_nil, List.any_cons, List.any_nil, id_eq, ev_bnd, ev_ret, ev_fail, ev_lift, ev_lift0, ev_opnd, ev_opnds, ev_slD, ev_ra, ev_rv, ev_mBin, ev_mBinO, ev_dr, ev_dz, ev_doz, ev_ode, ev_ac, ev_mB1, ev_mBO, ev_opndsL, ev_rsvs0, ev_rsvs1, ev_rsvd, ev_rsvs, ev_bindS, ev_mTrue, ev_mB, ev_mAnd, ev_mOr, ev_mNot, ev_mIf, ev_mTup, ev_mLst, ev_argsD0, ev_argsD1, ev_vals, ev_mRet, ev_sto, ev_sto2, ev_mPar2, ev_mPar3, ev_gN, ev_gTt, ev_gTl, ev_tgt0, ev_tgt1, ev_gF, ev_fzd, ev_fzo, ev_mOwn, ev_mOut, ev_mIsI, ev_mNeg, ev_opNeg, ev_mSl, ev_mSlL, ev_slcT, ev_slcL, ev_mPart, ev_mRev, ev_mStr1, ev_mChain, ev_mFun, ev_mask0, ev_mask1, ev_mk1o, ev_mk1f, ev_mk1d, ev_mk1u, ev_mCall, ev_lend0, ev_lend1, ev_lend2, ev_noS0, ev_noSd, ev_noSs, ev_back, ev_anyS0, ev_anySd, ev_anySs, ev_backF0, ev_backF1, ev_back1o, ev_back1d, ev_back1u, ev_got0, ev_gotd, ev_gots, ev_mItems, ev_itemsL, ev_itemsT, ev_mSigns, ev_mMeth, ev_chkL, ev_updO, ev_gAppend, ev_mSetIx, ev_gSet, ev_mRng, ev_rg1, ev_rg2, ev_mFor, ev_raise, ev_cI, ev_add, ev_sub, ev_abs, ev_max, ev_min, ev_inti, ev_intb, ev_lenL, ev_lenT, ev_lenS, ev_tupL, ev_tupT, ev_lstL, ev_lstT, ev_ixT, ev_ixL, ev_ixS, ev_at0, ev_at1, ev_at2, ev_at3, ev_at4, ev_at5, ev_at6, ev_at7, ev_ixN0, ev_ixN1, ev_is, ev_isnot, ev_isb, ev_isnotb, ev_addL, opEq_int, opNe_int, mSeq_def, isI, tyN, isN, opLt, opLe, opGt, opGe,
    List.getElem?_cons_zero, List.getElem?_cons_succ, List.getElem?_nil, List.set_cons_zero, List.set_cons_succ, List.length_cons, List.length_nil, List.cons_append, List.nil_append, List.replicate, List.append_nil, decide_true, decide_false, Int.reduceLT, Int.reduceLE, Int.reduceGT, Int.reduceGE, Int.reduceEq, Int.reduceNe, Int.reduceAdd, Int.reduceSub, Int.reduceMul, Int.reduceNeg, Int.reduceToNat, Int.reducePow, Nat.reduceAdd, Nat.reduceLT, Nat.reduceLeDiff, Nat.reduceEqDiff, Nat.reduceBNe, Nat.reduceBEq, gt_iff_lt, ge_iff_le, Bool.and_true, Bool.true_and, Bool.false_and, Bool.and_false, String.reduceBEq, Bool.or_false, Bool.or_true, Bool.true_or, Bool.false_or, and_true, true_and, not_true_eq_false, not_false_eq_true, ne_eq, true_or, or_true, false_or, or_false, and_false, false_and, if_true, if_false, Bool.not_true, Bool.not_false, reduceCtorEq, Int.ofNat_lt, h]))
  obtain ⟨p, hp, hp1, hp2⟩ : ∃ p : Int, atI [PyData.int 2147483647, .int 2147483629, .int 2147483587, .int 2147483579, .int 2147483563, .int 2147483549, .int 2147483543, .int 2147483497] ((k : Int) % 8) = some (.int p) ∧ 0 < p ∧ p < 2 ^ 31 := by
    rcases eight (Int.emod_nonneg (k : Int) (show (8 : Int) ≠ 0 by decide)) (Int.emod_lt_of_pos (k : Int) (show (0 : Int) < 8 by decide)) with h | h | h | h | h | h | h | h <;> rw [h]
    · exact ⟨_, rfl, by decide, by decide⟩
    · exact ⟨_, rfl, by decide, by decide⟩
    · exact ⟨_, rfl, by decide, by decide⟩
    · exact ⟨_, rfl, by decide, by decide⟩
    · exact ⟨_, rfl, by decide, by decide⟩
    · exact ⟨_, rfl, by decide, by decide⟩
    · exact ⟨_, rfl, by decide, by decide⟩
    · exact ⟨_, rfl, by decide, by decide⟩
  have q1 : 0 ≤ c % 2147483647 := Int.emod_nonneg _ (by decide)
  have q2 : c % 2147483647 < 2147483647 := Int.emod_lt_of_pos _ (by decide)
  have m1 : mulOk (c % 2147483647) 69623 := mulOk_of (n := 31) (m := 17) (by omega) (by decide) (by decide)
  have m2 : mulOk 104729 k := mulOk_of (n := 17) (m := 6) (by decide) (by omega) (by decide)
  have m3 : mulOk (104729 * k) k := mulOk_of (n := 24) (m := 6) (by omega) (by omega) (by decide)
  have m4 : mulOk 7919 k := mulOk_of (n := 17) (m := 6) (by decide) (by omega) (by decide)
  have sz : (8 : Nat) ≤ sizeLine := by decide
  have sz2 : (2 : Nat) ≤ sizeLine := by decide
  have pw : (0 : Int) ≤ 18 ∧ (18 : Int) ≤ 1000000 ∧ (10 : Int).natAbs < 2 ^ 64 := by decide
  generalize hw : c % 2147483647 * 69623 + 104729 * (k : Int) * k + 7919 * k + 12345 = w
  obtain ⟨g, hg, hg0⟩ : ∃ g : Int, mIf (mTrue (mBin opGe (dr (mB1 bAbs (ac (ra 2) (DL.ret [])))) (dr (mBin opPow (dr (DL.ret (.int 10))) (dr (DL.ret (.int 18))))))) (bnd (mB1 bAbs (ac (ra 2) (DL.ret []))) fun x => sto 3 (.d x)) (DL.ret .nx) [.d (scrD ns), .d (.int k), .d (.int c), .d (.int 0), .un, .un] = some (.ok .nx [.d (scrD ns), .d (.int k), .d (.int c), .d (.int g), .un, .un]) ∧ 0 ≤ g := by
    by_cases h : (10 : Int) ^ (18 : Int).toNat ≤ ((c.natAbs : Nat) : Int)
    · refine ⟨(c.natAbs : Nat), ?_, by omega⟩
      have h' := h
      simp only [Int.reduceToNat, Int.reducePow] at h'
      iterate 3 (try (simp only [Int.cast_ofNat_Int, Int.natCast_zero, Int.natCast_one, ev_compL0, ev_compL1, ev_mTurn, ev_mComp, ev_wipe0, ev_wipe1, ev_rest0, ev_rest1, ev_isOwn0, ev_isOwn1, ev_con0, ev_con1, ev_all, ev_any, ev_bools0, ev_bools1, List.all_cons, List.all_nil, List.any_cons, List.any_nil, id_eq, ev_bnd, ev_ret, ev_fail, ev_lift, ev_lift0, ev_opnd, ev_opnds, ev_slD, ev_ra, ev_rv, ev_mBin, ev_mBinO, ev_dr, ev_dz, ev_doz, ev_ode, ev_ac, ev_mB1, ev_mBO, ev_opndsL, ev_rsvs0, ev_rsvs1, ev_rsvd, ev_rsvs, ev_bindS, ev_mTrue, ev_mB, ev_mAnd, ev_mOr, ev_mNot, ev_mIf, ev_mTup, ev_mLst, ev_argsD0, ev_argsD1, ev_vals, ev_mRet, ev_sto, ev_sto2, ev_mPar2, ev_mPar3, ev_gN, ev_gTt, ev_gTl, ev_tgt0, ev_tgt1, ev_gF, ev_fzd, ev_fzo, ev_mOwn, ev_mOut, ev_mIsI, ev_mNeg, ev_opNeg, ev_mSl, ev_mSlL, ev_slcT, ev_slcL, ev_mPart, ev_mRev, ev_mStr1, ev_mChain, ev_mFun, ev_mask0, ev_mask1, ev_mk1o, ev_mk1f, ev_mk1d, ev_mk1u, ev_mCall, ev_lend0, ev_lend1, ev_lend2, ev_noS0, ev_noSd, ev_noSs, ev_back, ev_anyS0, ev_anySd, ev_anySs, ev_backF0, ev_backF1, ev_back1o, ev_back1d, ev_back1u, ev_got0, ev_gotd, ev_gots, ev_mItems, ev_itemsL, ev_itemsT, ev_mSigns, ev_mMeth, ev_chkL, ev_updO, ev_gAppend, ev_mSetIx, ev_gSet, ev_mRng, ev_rg1, ev_rg2, ev_mFor, ev_raise, ev_cI, ev_add, ev_sub, ev_abs, ev_max, ev_min, ev_inti, ev_intb, ev_lenL, ev_lenT, ev_lenS, ev_tupL, ev_tupT, ev_lstL, ev_lstT, ev_ixT, ev_ixL, ev_ixS, ev_at0, ev_at1, ev_at2, ev_at3, ev_at4, ev_at5, ev_at6, ev_at7, ev_ixN0, ev_ixN1, ev_is, ev_isnot, ev_isb, ev_isnotb, ev_addL, opEq_int, opNe_int, mSeq_def, isI, tyN, isN, opLt, opLe, opGt, opGe,
    List.getElem?_cons_zero, List.getElem?_cons_succ, List.getElem?_nil, List.set_cons_zero, List.set_cons_succ, List.length_cons, List.length_nil, List.cons_append, List.nil_append, List.replicate, List.append_nil, decide_true, decide_false, Int.reduceLT, Int.reduceLE, Int.reduceGT, Int.reduceGE, Int.reduceEq, Int.reduceNe, Int.reduceAdd, Int.reduceSub, Int.reduceMul, Int.reduceNeg, Int.reduceToNat, Int.reducePow, Nat.reduceAdd, Nat.reduceLT, Nat.reduceLeDiff, Nat.reduceEqDiff, Nat.reduceBNe, Nat.reduceBEq, gt_iff_lt, ge_iff_le, Bool.and_true, Bool.true_and, Bool.false_and, Bool.and_false, String.reduceBEq, Bool.or_false, Bool.or_true, Bool.true_or, Bool.false_or, and_true, true_and, not_true_eq_false, not_false_eq_true, ne_eq, true_or, or_true, false_or, or_false, and_false, false_and, if_true, if_false, Bool.not_true, Bool.not_false, reduceCtorEq, natAbs_eq, opPow_int pw, h']))
    · refine ⟨0, ?_, by omega⟩
      have h' := h
      simp only [Int.reduceToNat, Int.reducePow] at h'
      iterate 3 (try (simp only [Int.cast_ofNat_Int, Int.natCast_zero, Int.natCast_one, ev_compL0, ev_compL1, ev_mTurn, ev_mComp, ev_wipe0, ev_wipe1, ev_rest0, ev_rest1, ev_isOwn0, ev_isOwn1, ev_con0, ev_con1, ev_all, ev_any, ev_bools0, ev_bools1, List.all_cons, List.all_nil, List.any_cons, List.any_nil, id_eq, ev_bnd, ev_ret, ev_fail, ev_lift, ev_lift0, ev_opnd, ev_opnds, ev_slD, ev_ra, ev_rv, ev_mBin, ev_mBinO, ev_dr, ev_dz, ev_doz, ev_ode, ev_ac, ev_mB1, ev_mBO, ev_opndsL, ev_rsvs0, ev_rsvs1, ev_rsvd, ev_rsvs, ev_bindS, ev_mTrue, ev_mB, ev_mAnd, ev_mOr, ev_mNot, ev_mIf, ev_mTup, ev_mLst, ev_argsD0, ev_argsD1, ev_vals, ev_mRet, ev_sto, ev_sto2, ev_mPar2, ev_mPar3, ev_gN, ev_gTt, ev_gTl, ev_tgt0, ev_tgt1, ev_gF, ev_fzd, ev_fzo, ev_mOwn, ev_mOut, ev_mIsI, ev_mNeg, ev_opNeg, ev_mSl, ev_mSlL, ev_slcT, ev_slcL, ev_mPart, ev_mRev, ev_mStr1, ev_mChain, ev_mFun, ev_mask0, ev_mask1, ev_mk1o, ev_mk1f, ev_mk1d, ev_mk1u, ev_mCall, ev_lend0, ev_lend1, ev_lend2, ev_noS0, ev_noSd, ev_noSs, ev_back, ev_anyS0, ev_anySd, ev_anySs, ev_backF0, ev_backF1, ev_back1o, ev_back1d, ev_back1u, ev_got0, ev_gotd, ev_gots, ev_mItems, ev_itemsL, ev_itemsT, ev_mSigns, ev_mMeth, ev_chkL, ev_updO, ev_gAppend, ev_mSetIx, ev_gSet, ev_mRng, ev_rg1, ev_rg2, ev_mFor, ev_raise, ev_cI, ev_add, ev_sub, ev_abs, ev_max, ev_min, ev_inti, ev_intb, ev_lenL, ev_lenT, ev_lenS, ev_tupL, ev_tupT, ev_lstL, ev_lstT, ev_ixT, ev_ixL, ev_ixS, ev_at0, ev_at1, ev_at2, ev_at3, ev_at4, ev_at5, ev_at6, ev_at7, ev_ixN0, ev_ixN1, ev_is, ev_isnot, ev_isb, ev_isnotb, ev_addL, opEq_int, opNe_int, mSeq_def, isI, tyN, isN, opLt, opLe, opGt, opGe,
    List.getElem?_cons_zero, List.getElem?_cons_succ, List.getElem?_nil, List.set_cons_zero, List.set_cons_succ, List.length_cons, List.length_nil, List.cons_append, List.nil_append, List.replicate, List.append_nil, decide_true, decide_false, Int.reduceLT, Int.reduceLE, Int.reduceGT, Int.reduceGE, Int.reduceEq, Int.reduceNe, Int.reduceAdd, Int.reduceSub, Int.reduceMul, Int.reduceNeg, Int.reduceToNat, Int.reducePow, Nat.reduceAdd, Nat.reduceLT, Nat.reduceLeDiff, Nat.reduceEqDiff, Nat.reduceBNe, Nat.reduceBEq, gt_iff_lt, ge_iff_le, Bool.and_true, Bool.true_and, Bool.false_and, Bool.and_false, String.reduceBEq, Bool.or_false, Bool.or_true, Bool.true_or, Bool.false_or, and_true, true_and, not_true_eq_false, not_false_eq_true, ne_eq, true_or, or_true, false_or, or_false, and_false, false_and, if_true, if_false, Bool.not_true, Bool.not_false, reduceCtorEq, natAbs_eq, opPow_int pw, h']))
  refine ⟨.l [.int g, .int (w % p)], [.un, .un], ?_, g, w % p, rfl, hg0, Int.emod_nonneg _ (by omega), by have := Int.emod_lt_of_pos w hp1; omega⟩
  unfold d__law_bag b__law_bag
  rw [ev_mFun]
  iterate 3 (try (simp only [Int.cast_ofNat_Int, Int.natCast_zero, Int.natCast_one, ev_compL0, ev_compL1, ev_mTurn, ev_mComp, ev_wipe0, ev_wipe1, ev_rest0, ev_rest1, ev_isOwn0, ev_isOwn1, ev_con0, ev_con1, ev_all, ev_any, ev_bools0, ev_bools1, List.all_cons, List.all_nil, List.any_cons, List.any_nil, id_eq, ev_bnd, ev_ret, ev_fail, ev_lift, ev_lift0, ev_opnd, ev_opnds, ev_slD, ev_ra, ev_rv, ev_mBin, ev_mBinO, ev_dr, ev_dz, ev_doz, ev_ode, ev_ac, ev_mB1, ev_mBO, ev_opndsL, ev_rsvs0, ev_rsvs1, ev_rsvd, ev_rsvs, ev_bindS, ev_mTrue, ev_mB, ev_mAnd, ev_mOr, ev_mNot, ev_mIf, ev_mTup, ev_mLst, ev_argsD0, ev_argsD1, ev_vals, ev_mRet, ev_sto, ev_sto2, ev_mPar2, ev_mPar3, ev_gN, ev_gTt, ev_gTl, ev_tgt0, ev_tgt1, ev_gF, ev_fzd, ev_fzo, ev_mOwn, ev_mOut, ev_mIsI, ev_mNeg, ev_opNeg, ev_mSl, ev_mSlL, ev_slcT, ev_slcL, ev_mPart, ev_mRev, ev_mStr1, ev_mChain, ev_mFun, ev_mask0, ev_mask1, ev_mk1o, ev_mk1f, ev_mk1d, ev_mk1u, ev_mCall, ev_lend0, ev_lend1, ev_lend2, ev_noS0, ev_noSd, ev_noSs, ev_back, ev_anyS0, ev_anySd, ev_anySs, ev_backF0, ev_backF1, ev_back1o, ev_back1d, ev_back1u, ev_got0, ev_gotd, ev_gots, ev_mItems, ev_itemsL, ev_itemsT, ev_mSigns, ev_mMeth, ev_chkL, ev_updO, ev_gAppend, ev_mSetIx, ev_gSet, ev_mRng, ev_rg1, ev_rg2, ev_mFor, ev_raise, ev_cI, ev_add, ev_sub, ev_abs, ev_max, ev_min, ev_inti, ev_intb, ev_lenL, ev_lenT, ev_lenS, ev_tupL, ev_tupT, ev_lstL, ev_lstT, ev_ixT, ev_ixL, ev_ixS, ev_at0, ev_at1, ev_at2, ev_at3, ev_at4, ev_at5, ev_at6, ev_at7, ev_ixN0, ev_ixN1, ev_is, ev_isnot, ev_isb, ev_isnotb, ev_addL, opEq_int, opNe_int, mSeq_def, isI, tyN, isN, opLt, opLe, opGt, opGe,
    List.getElem?_cons_zero, List.getElem?_cons_succ, List.getElem?_nil, List.set_cons_zero, List.set_cons_succ, List.length_cons, List.length_nil, List.cons_append, List.nil_append, List.replicate, List.append_nil, decide_true, decide_false, Int.reduceLT, Int.reduceLE, Int.reduceGT, Int.reduceGE, Int.reduceEq, Int.reduceNe, Int.reduceAdd, Int.reduceSub, Int.reduceMul, Int.reduceNeg, Int.reduceToNat, Int.reducePow, Nat.reduceAdd, Nat.reduceLT, Nat.reduceLeDiff, Nat.reduceEqDiff, Nat.reduceBNe, Nat.reduceBEq, gt_iff_lt, ge_iff_le, Bool.and_true, Bool.true_and, Bool.false_and, Bool.and_false, String.reduceBEq, Bool.or_false, Bool.or_true, Bool.true_or, Bool.false_or, and_true, true_and, not_true_eq_false, not_false_eq_true, ne_eq, true_or, or_true, false_or, or_false, and_false, false_and, if_true, if_false, Bool.not_true, Bool.not_false, reduceCtorEq, -ev_mIf, hc, hg, opMul_int m1, opMul_int m2, opMul_int m3, opMul_int m4, opMod_int (show (2147483647 : Int) ≠ 0 by decide), opMod_int (show (8 : Int) ≠ 0 by decide), fmod_pos (show (0 : Int) ≤ 2147483647 by decide), fmod_pos (show (0 : Int) ≤ 8 by decide), hp, opMod_int (show p ≠ 0 by omega), fmod_pos (show 0 ≤ p by omega), sz, sz2, hw]))

/-! ### whole numbers, numbers -/
theorem is_whole_int (i : Int) : d_is_whole [.d (.int i)] = some (.ok (.d (.bool true)) [.un]) := rfl
theorem lis_whole_int (i : Int) : d__law_is_whole [.d (.int i)] = some (.ok (.d (.bool true)) [.un]) := rfl
theorem shared_ok (a b : Int) : d_shared [.d (.int a), .d (.int b)] = some (.ok (.d (.int (gcd2 a b))) [.un, .un]) := shared_fun a b rfl
theorem lshared_ok (a b : Int) : d__law_shared [.d (.int a), .d (.int b)] = some (.ok (.d (.int (gcd2 a b))) [.un, .un]) := shared_fun a b rfl
theorem gcd22 (a b c : Int) : gcd2 ((gcd2 a b : Nat) : Int) c = G3 a b c := rfl
theorem sz3 : (3 : Nat) ≤ sizeLine := by decide
theorem is_number_ok {x : Int × Int × Int} (h : IsN x) : d_is_number [.d (num x)] = some (.ok (.d (.bool true)) [.un]) := by
  obtain ⟨a, b, c⟩ := x
  obtain ⟨h1, h2⟩ := h
  have h1 : 0 < c := h1
  have h2 : G3 a b c = 1 := h2
  have h3 : (1 : Int) ≤ c := h1
  have sz0 : (0 : Nat) < sizeLine := by decide
  have sz1 : (1 : Nat) < sizeLine := by decide
  have sz2 : (2 : Nat) < sizeLine := by decide
  unfold d_is_number b_is_number num
  iterate 3 (try (simp only [Int.cast_ofNat_Int, Int.natCast_zero, Int.natCast_one, ev_compL0, ev_compL1, ev_mTurn, ev_mComp, ev_wipe0, ev_wipe1, ev_rest0, ev_rest1, ev_isOwn0, ev_isOwn1, ev_con0, ev_con1, ev_all, ev_any, ev_bools0, ev_bools1, List.all_cons, List.all_nil, List.any_cons, List.any_nil, id_eq, ev_bnd, ev_ret, ev_fail, ev_lift, ev_lift0, ev_opnd, ev_opnds, ev_slD, ev_ra, ev_rv, ev_mBin, ev_mBinO, ev_dr, ev_dz, ev_doz, ev_ode, ev_ac, ev_mB1, ev_mBO, ev_opndsL, ev_rsvs0, ev_rsvs1, ev_rsvd, ev_rsvs, ev_bindS, ev_mTrue, ev_mB, ev_mAnd, ev_mOr, ev_mNot, ev_mIf, ev_mTup, ev_mLst, ev_argsD0, ev_argsD1, ev_vals, ev_mRet, ev_sto, ev_sto2, ev_mPar2, ev_mPar3, ev_gN, ev_gTt, ev_gTl, ev_tgt0, ev_tgt1, ev_gF, ev_fzd, ev_fzo, ev_mOwn, ev_mOut, ev_mIsI, ev_mNeg, ev_opNeg, ev_mSl, ev_mSlL, ev_slcT, ev_slcL, ev_mPart, ev_mRev, ev_mStr1, ev_mChain, ev_mFun, ev_mask0, ev_mask1, ev_mk1o, ev_mk1f, ev_mk1d, ev_mk1u, ev_mCall, ev_lend0, ev_lend1, ev_lend2, ev_noS0, ev_noSd, ev_noSs, ev_back, ev_anyS0, ev_anySd, ev_anySs, ev_backF0, ev_backF1, ev_back1o, ev_back1d, ev_back1u, ev_got0, ev_gotd, ev_gots, ev_mItems, ev_itemsL, ev_itemsT, ev_mSigns, ev_mMeth, ev_chkL, ev_updO, ev_gAppend, ev_mSetIx, ev_gSet, ev_mRng, ev_rg1, ev_rg2, ev_mFor, ev_raise, ev_cI, ev_add, ev_sub, ev_abs, ev_max, ev_min, ev_inti, ev_intb, ev_lenL, ev_lenT, ev_lenS, ev_tupL, ev_tupT, ev_lstL, ev_lstT, ev_ixT, ev_ixL, ev_ixS, ev_at0, ev_at1, ev_at2, ev_at3, ev_at4, ev_at5, ev_at6, ev_at7, ev_ixN0, ev_ixN1, ev_is, ev_isnot, ev_isb, ev_isnotb, ev_addL, opEq_int, opNe_int, mSeq_def, isI, tyN, isN, opLt, opLe, opGt, opGe,
    List.getElem?_cons_zero, List.getElem?_cons_succ, List.getElem?_nil, List.set_cons_zero, List.set_cons_succ, List.length_cons, List.length_nil, List.cons_append, List.nil_append, List.replicate, List.append_nil, decide_true, decide_false, Int.reduceLT, Int.reduceLE, Int.reduceGT, Int.reduceGE, Int.reduceEq, Int.reduceNe, Int.reduceAdd, Int.reduceSub, Int.reduceMul, Int.reduceNeg, Int.reduceToNat, Int.reducePow, Nat.reduceAdd, Nat.reduceLT, Nat.reduceLeDiff, Nat.reduceEqDiff, Nat.reduceBNe, Nat.reduceBEq, gt_iff_lt, ge_iff_le, Bool.and_true, Bool.true_and, Bool.false_and, Bool.and_false, String.reduceBEq, Bool.or_false, Bool.or_true, Bool.true_or, Bool.false_or, and_true, true_and, not_true_eq_false, not_false_eq_true, ne_eq, true_or, or_true, false_or, or_false, and_false, false_and, if_true, if_false, Bool.not_true, Bool.not_false, reduceCtorEq, q_is_number_1, e_is_number_1, is_whole_int, sz0, sz1, sz2, h3, shared_ok, gcd22, h2]))
theorem lis_number_ok {x : Int × Int × Int} (h : IsN x) : d__law_is_number [.d (num x)] = some (.ok (.d (.bool true)) [.un]) := by
  obtain ⟨a, b, c⟩ := x
  obtain ⟨h1, h2⟩ := h
  have h1 : 0 < c := h1
  have h2 : G3 a b c = 1 := h2
  have sz0 : (0 : Nat) < sizeLine := by decide
  have sz1 : (1 : Nat) < sizeLine := by decide
  have sz2 : (2 : Nat) < sizeLine := by decide
  unfold d__law_is_number b__law_is_number num
  iterate 3 (try (simp only [Int.cast_ofNat_Int, Int.natCast_zero, Int.natCast_one, ev_compL0, ev_compL1, ev_mTurn, ev_mComp, ev_wipe0, ev_wipe1, ev_rest0, ev_rest1, ev_isOwn0, ev_isOwn1, ev_con0, ev_con1, ev_all, ev_any, ev_bools0, ev_bools1, List.all_cons, List.all_nil, List.any_cons, List.any_nil, id_eq, ev_bnd, ev_ret, ev_fail, ev_lift, ev_lift0, ev_opnd, ev_opnds, ev_slD, ev_ra, ev_rv, ev_mBin, ev_mBinO, ev_dr, ev_dz, ev_doz, ev_ode, ev_ac, ev_mB1, ev_mBO, ev_opndsL, ev_rsvs0, ev_rsvs1, ev_rsvd, ev_rsvs, ev_bindS, ev_mTrue, ev_mB, ev_mAnd, ev_mOr, ev_mNot, ev_mIf, ev_mTup, ev_mLst, ev_argsD0, ev_argsD1, ev_vals, ev_mRet, ev_sto, ev_sto2, ev_mPar2, ev_mPar3, ev_gN, ev_gTt, ev_gTl, ev_tgt0, ev_tgt1, ev_gF, ev_fzd, ev_fzo, ev_mOwn, ev_mOut, ev_mIsI, ev_mNeg, ev_opNeg, ev_mSl, ev_mSlL, ev_slcT, ev_slcL, ev_mPart, ev_mRev, ev_mStr1, ev_mChain, ev_mFun, ev_mask0, ev_mask1, ev_mk1o, ev_mk1f, ev_mk1d, ev_mk1u, ev_mCall, ev_lend0, ev_lend1, ev_lend2, ev_noS0, ev_noSd, ev_noSs, ev_back, ev_anyS0, ev_anySd, ev_anySs, ev_backF0, ev_backF1, ev_back1o, ev_back1d, ev_back1u, ev_got0, ev_gotd, ev_gots, ev_mItems, ev_itemsL, ev_itemsT, ev_mSigns, ev_mMeth, ev_chkL, ev_updO, ev_gAppend, ev_mSetIx, ev_gSet, ev_mRng, ev_rg1, ev_rg2, ev_mFor, ev_raise, ev_cI, ev_add, ev_sub, ev_abs, ev_max, ev_min, ev_inti, ev_intb, ev_lenL, ev_lenT, ev_lenS, ev_tupL, ev_tupT, ev_lstL, ev_lstT, ev_ixT, ev_ixL, ev_ixS, ev_at0, ev_at1, ev_at2, ev_at3, ev_at4, ev_at5, ev_at6, ev_at7, ev_ixN0, ev_ixN1, ev_is, ev_isnot, ev_isb, ev_isnotb, ev_addL, opEq_int, opNe_int, mSeq_def, isI, tyN, isN, opLt, opLe, opGt, opGe,
    List.getElem?_cons_zero, List.getElem?_cons_succ, List.getElem?_nil, List.set_cons_zero, List.set_cons_succ, List.length_cons, List.length_nil, List.cons_append, List.nil_append, List.replicate, List.append_nil, decide_true, decide_false, Int.reduceLT, Int.reduceLE, Int.reduceGT, Int.reduceGE, Int.reduceEq, Int.reduceNe, Int.reduceAdd, Int.reduceSub, Int.reduceMul, Int.reduceNeg, Int.reduceToNat, Int.reducePow, Nat.reduceAdd, Nat.reduceLT, Nat.reduceLeDiff, Nat.reduceEqDiff, Nat.reduceBNe, Nat.reduceBEq, gt_iff_lt, ge_iff_le, Bool.and_true, Bool.true_and, Bool.false_and, Bool.and_false, String.reduceBEq, Bool.or_false, Bool.or_true, Bool.true_or, Bool.false_or, and_true, true_and, not_true_eq_false, not_false_eq_true, ne_eq, true_or, or_true, false_or, or_false, and_false, false_and, if_true, if_false, Bool.not_true, Bool.not_false, reduceCtorEq, q__law_is_number_1, e__law_is_number_1, lis_whole_int, sz0, sz1, sz2, h1, lshared_ok, gcd22, h2]))
theorem low_ok {a b c : Int} {n : Nat} (hc : c ≠ 0) (h : c.natAbs < 2 ^ n) (hn : n < 9000) : d__law_low [.d (.int a), .d (.int b), .d (.int c)] = some (.ok (.d (num (lowT a b c))) [.un, .un, .un]) := by
  have sz2 : (2 : Nat) ≤ sizeLine := by decide
  have sz3 : (3 : Nat) ≤ sizeLine := by decide
  have hg : (G3 a b c : Int).natAbs < 2 ^ n := Nat.lt_of_le_of_lt (G3_le hc) h
  have hk : ∃ s : Int, atI [PyData.int 1, .int (-1)] (if decide (c < 0) = true then 1 else 0) = some (.int s) ∧ (G3 a b c : Int) * s = lowK a b c ∧ mulOk (G3 a b c) s := by
    by_cases q : c < 0
    · refine ⟨-1, by simp only [q, decide_true, if_true]; rfl, by unfold lowK; rw [if_pos q]; omega, mulOk_of (m := 1) hg (by decide) (by omega)⟩
    · refine ⟨1, by simp only [q, decide_false, if_false, Bool.false_eq_true]; rfl, by unfold lowK; rw [if_neg q]; omega, mulOk_of (m := 1) hg (by decide) (by omega)⟩
  obtain ⟨s, s1, s2, s3⟩ := hk
  have hd := fun y => lowK_div (a := a) (b := b) hc h hn y
  unfold d__law_low b__law_low num lowT
  iterate 3 (try (simp only [Int.cast_ofNat_Int, Int.natCast_zero, Int.natCast_one, ev_compL0, ev_compL1, ev_mTurn, ev_mComp, ev_wipe0, ev_wipe1, ev_rest0, ev_rest1, ev_isOwn0, ev_isOwn1, ev_con0, ev_con1, ev_all, ev_any, ev_bools0, ev_bools1, List.all_cons, List.all_nil, List.any_cons, List.any_nil, id_eq, ev_bnd, ev_ret, ev_fail, ev_lift, ev_lift0, ev_opnd, ev_opnds, ev_slD, ev_ra, ev_rv, ev_mBin, ev_mBinO, ev_dr, ev_dz, ev_doz, ev_ode, ev_ac, ev_mB1, ev_mBO, ev_opndsL, ev_rsvs0, ev_rsvs1, ev_rsvd, ev_rsvs, ev_bindS, ev_mTrue, ev_mB, ev_mAnd, ev_mOr, ev_mNot, ev_mIf, ev_mTup, ev_mLst, ev_argsD0, ev_argsD1, ev_vals, ev_mRet, ev_sto, ev_sto2, ev_mPar2, ev_mPar3, ev_gN, ev_gTt, ev_gTl, ev_tgt0, ev_tgt1, ev_gF, ev_fzd, ev_fzo, ev_mOwn, ev_mOut, ev_mIsI, ev_mNeg, ev_opNeg, ev_mSl, ev_mSlL, ev_slcT, ev_slcL, ev_mPart, ev_mRev, ev_mStr1, ev_mChain, ev_mFun, ev_mask0, ev_mask1, ev_mk1o, ev_mk1f, ev_mk1d, ev_mk1u, ev_mCall, ev_lend0, ev_lend1, ev_lend2, ev_noS0, ev_noSd, ev_noSs, ev_back, ev_anyS0, ev_anySd, ev_anySs, ev_backF0, ev_backF1, ev_back1o, ev_back1d, ev_back1u, ev_got0, ev_gotd, ev_gots, ev_mItems, ev_itemsL, ev_itemsT, ev_mSigns, ev_mMeth, ev_chkL, ev_updO, ev_gAppend, ev_mSetIx, ev_gSet, ev_mRng, ev_rg1, ev_rg2, ev_mFor, ev_raise, ev_cI, ev_add, ev_sub, ev_abs, ev_max, ev_min, ev_inti, ev_intb, ev_lenL, ev_lenT, ev_lenS, ev_tupL, ev_tupT, ev_lstL, ev_lstT, ev_ixT, ev_ixL, ev_ixS, ev_at0, ev_at1, ev_at2, ev_at3, ev_at4, ev_at5, ev_at6, ev_at7, ev_ixN0, ev_ixN1, ev_is, ev_isnot, ev_isb, ev_isnotb, ev_addL, opEq_int, opNe_int, mSeq_def, isI, tyN, isN, opLt, opLe, opGt, opGe,
    List.getElem?_cons_zero, List.getElem?_cons_succ, List.getElem?_nil, List.set_cons_zero, List.set_cons_succ, List.length_cons, List.length_nil, List.cons_append, List.nil_append, List.replicate, List.append_nil, decide_true, decide_false, Int.reduceLT, Int.reduceLE, Int.reduceGT, Int.reduceGE, Int.reduceEq, Int.reduceNe, Int.reduceAdd, Int.reduceSub, Int.reduceMul, Int.reduceNeg, Int.reduceToNat, Int.reducePow, Nat.reduceAdd, Nat.reduceLT, Nat.reduceLeDiff, Nat.reduceEqDiff, Nat.reduceBNe, Nat.reduceBEq, gt_iff_lt, ge_iff_le, Bool.and_true, Bool.true_and, Bool.false_and, Bool.and_false, String.reduceBEq, Bool.or_false, Bool.or_true, Bool.true_or, Bool.false_or, and_true, true_and, not_true_eq_false, not_false_eq_true, ne_eq, true_or, or_true, false_or, or_false, and_false, false_and, if_true, if_false, Bool.not_true, Bool.not_false, reduceCtorEq, lshared_ok, gcd22, s1, s2, opMul_int s3, opFdiv_int (hd a), opFdiv_int (hd b), opFdiv_int (hd c), sz2, sz3]))

/-! ### many figures -/
theorem rangeL_len (n : Nat) : (rangeL 0 n).length = n := by unfold rangeL; simp
theorem digits_ok {o : Oo} (h : GB o) {w : Int} (hw : 1 ≤ w) : ∃ (r : Int) (o' : Oo), d__law_digits [.own true o, .d (.int w)] = some (.ok (.d (.int r)) [.own true o', .un]) ∧ 0 ≤ r ∧ r < w ∧ GB o' := by
  have hloop : ∃ ρ', l__law_digits_1 [.own true o, .d (.int w), .d (.int 0), .un] = some (.ok .nx ρ') ∧ ∃ (o' : Oo) (f : Int) (t : Sl), ρ' = [.own true o', .d (.int w), .d (.int f), t] ∧ GB o' ∧ 0 ≤ f := by
    have key : ∃ ρ', forL (gN 3) w__law_digits_1 (rangeL 0 10) [.own true o, .d (.int w), .d (.int 0), .un] = some (.ok .nx ρ') ∧ ∃ (o' : Oo) (f : Int) (t : Sl), ρ' = [.own true o', .d (.int w), .d (.int f), t] ∧ GB o' ∧ 0 ≤ f ∧ f < 10000 ^ (10 - ([] : List D).length) ∧ ([] : List D).length ≤ 10 ∧ ((∃ x, t = .d x) ∨ t = .un) := by
      refine forL_inv (fun xs ρ => ∃ (o' : Oo) (f : Int) (t : Sl), ρ = [.own true o', .d (.int w), .d (.int f), t] ∧ GB o' ∧ 0 ≤ f ∧ f < 10000 ^ (10 - xs.length) ∧ xs.length ≤ 10 ∧ ((∃ x, t = .d x) ∨ t = .un)) ⟨o, 0, .un, rfl, h, by decide, by rw [rangeL_len]; decide, by rw [rangeL_len]; decide, .inr rfl⟩ ?_
      rintro x r ρ ⟨o1, f, t, rfl, ho, h0, h1, h2, h3⟩
      obtain ⟨d, o2, e, e1, e2, e3⟩ := take_ok ho (n := 10000) (by decide) (by decide)
      have h2 : r.length + 1 ≤ 10 := h2
      have h1 : f < 10000 ^ (10 - (r.length + 1)) := h1
      have hp : (10000 : Int) ^ (10 - r.length) = 10000 ^ (10 - (r.length + 1)) * 10000 := by
        rw [show 10 - r.length = (10 - (r.length + 1)) + 1 by omega, Int.pow_succ]
      have hb : (10000 : Int) ^ (10 - (r.length + 1)) ≤ 10000 ^ 10 := by
        have := Nat.pow_le_pow_right (n := 10000) (by decide) (show 10 - (r.length + 1) ≤ 10 by omega)
        exact_mod_cast this
      have hm : mulOk f 10000 := mulOk_of (n := 140) (m := 14) (by have : (10000 : Int) ^ 10 < 2 ^ 140 := by decide
                                                                   omega) (by decide) (by decide)
      have pw : (0 : Int) ≤ 4 ∧ (4 : Int) ≤ 1000000 ∧ (10 : Int).natAbs < 2 ^ 64 := by decide
      refine ⟨[.own true o1, .d (.int w), .d (.int f), .d x], [.own true o2, .d (.int w), .d (.int (f * 10000 + d)), .d x], ?_, ?_, o2, f * 10000 + d, .d x, rfl, e3, by omega, by rw [hp]; omega, by omega, .inl ⟨x, rfl⟩⟩
      · rcases h3 with ⟨y, rfl⟩ | rfl
        · rfl
        · rfl
      · iterate 3 (try (simp only [Int.cast_ofNat_Int, Int.natCast_zero, Int.natCast_one, ev_compL0, ev_compL1, ev_mTurn, ev_mComp, ev_wipe0, ev_wipe1, ev_rest0, ev_rest1, ev_isOwn0, ev_isOwn1, ev_con0, ev_con1, ev_all, ev_any, ev_bools0, ev_bools1, List.all_cons, List.all_nil, List.any_cons, List.any_nil, id_eq, ev_bnd, ev_ret, ev_fail, ev_lift, ev_lift0, ev_opnd, ev_opnds, ev_slD, ev_ra, ev_rv, ev_mBin, ev_mBinO, ev_dr, ev_dz, ev_doz, ev_ode, ev_ac, ev_mB1, ev_mBO, ev_opndsL, ev_rsvs0, ev_rsvs1, ev_rsvd, ev_rsvs, ev_bindS, ev_mTrue, ev_mB, ev_mAnd, ev_mOr, ev_mNot, ev_mIf, ev_mTup, ev_mLst, ev_argsD0, ev_argsD1, ev_vals, ev_mRet, ev_sto, ev_sto2, ev_mPar2, ev_mPar3, ev_gN, ev_gTt, ev_gTl, ev_tgt0, ev_tgt1, ev_gF, ev_fzd, ev_fzo, ev_mOwn, ev_mOut, ev_mIsI, ev_mNeg, ev_opNeg, ev_mSl, ev_mSlL, ev_slcT, ev_slcL, ev_mPart, ev_mRev, ev_mStr1, ev_mChain, ev_mFun, ev_mask0, ev_mask1, ev_mk1o, ev_mk1f, ev_mk1d, ev_mk1u, ev_mCall, ev_lend0, ev_lend1, ev_lend2, ev_noS0, ev_noSd, ev_noSs, ev_back, ev_anyS0, ev_anySd, ev_anySs, ev_backF0, ev_backF1, ev_back1o, ev_back1d, ev_back1u, ev_got0, ev_gotd, ev_gots, ev_mItems, ev_itemsL, ev_itemsT, ev_mSigns, ev_mMeth, ev_chkL, ev_updO, ev_gAppend, ev_mSetIx, ev_gSet, ev_mRng, ev_rg1, ev_rg2, ev_mFor, ev_raise, ev_cI, ev_add, ev_sub, ev_abs, ev_max, ev_min, ev_inti, ev_intb, ev_lenL, ev_lenT, ev_lenS, ev_tupL, ev_tupT, ev_lstL, ev_lstT, ev_ixT, ev_ixL, ev_ixS, ev_at0, ev_at1, ev_at2, ev_at3, ev_at4, ev_at5, ev_at6, ev_at7, ev_ixN0, ev_ixN1, ev_is, ev_isnot, ev_isb, ev_isnotb, ev_addL, opEq_int, opNe_int, mSeq_def, isI, tyN, isN, opLt, opLe, opGt, opGe,
    List.getElem?_cons_zero, List.getElem?_cons_succ, List.getElem?_nil, List.set_cons_zero, List.set_cons_succ, List.length_cons, List.length_nil, List.cons_append, List.nil_append, List.replicate, List.append_nil, decide_true, decide_false, Int.reduceLT, Int.reduceLE, Int.reduceGT, Int.reduceGE, Int.reduceEq, Int.reduceNe, Int.reduceAdd, Int.reduceSub, Int.reduceMul, Int.reduceNeg, Int.reduceToNat, Int.reducePow, Nat.reduceAdd, Nat.reduceLT, Nat.reduceLeDiff, Nat.reduceEqDiff, Nat.reduceBNe, Nat.reduceBEq, gt_iff_lt, ge_iff_le, Bool.and_true, Bool.true_and, Bool.false_and, Bool.and_false, String.reduceBEq, Bool.or_false, Bool.or_true, Bool.true_or, Bool.false_or, and_true, true_and, not_true_eq_false, not_false_eq_true, ne_eq, true_or, or_true, false_or, or_false, and_false, false_and, if_true, if_false, Bool.not_true, Bool.not_false, reduceCtorEq, w__law_digits_1, opPow_int pw, opMul_int hm, e]))
    obtain ⟨ρ', e, o', f, t, e1, e2, e3, _⟩ := key
    refine ⟨ρ', ?_, o', f, t, e1, e2, e3⟩
    iterate 3 (try (simp only [Int.cast_ofNat_Int, Int.natCast_zero, Int.natCast_one, ev_compL0, ev_compL1, ev_mTurn, ev_mComp, ev_wipe0, ev_wipe1, ev_rest0, ev_rest1, ev_isOwn0, ev_isOwn1, ev_con0, ev_con1, ev_all, ev_any, ev_bools0, ev_bools1, List.all_cons, List.all_nil, List.any_cons, List.any_nil, id_eq, ev_bnd, ev_ret, ev_fail, ev_lift, ev_lift0, ev_opnd, ev_opnds, ev_slD, ev_ra, ev_rv, ev_mBin, ev_mBinO, ev_dr, ev_dz, ev_doz, ev_ode, ev_ac, ev_mB1, ev_mBO, ev_opndsL, ev_rsvs0, ev_rsvs1, ev_rsvd, ev_rsvs, ev_bindS, ev_mTrue, ev_mB, ev_mAnd, ev_mOr, ev_mNot, ev_mIf, ev_mTup, ev_mLst, ev_argsD0, ev_argsD1, ev_vals, ev_mRet, ev_sto, ev_sto2, ev_mPar2, ev_mPar3, ev_gN, ev_gTt, ev_gTl, ev_tgt0, ev_tgt1, ev_gF, ev_fzd, ev_fzo, ev_mOwn, ev_mOut, ev_mIsI, ev_mNeg, ev_opNeg, ev_mSl, ev_mSlL, ev_slcT, ev_slcL, ev_mPart, ev_mRev, ev_mStr1, ev_mChain, ev_mFun, ev_mask0, ev_mask1, ev_mk1o, ev_mk1f, ev_mk1d, ev_mk1u, ev_mCall, ev_lend0, ev_lend1, ev_lend2, ev_noS0, ev_noSd, ev_noSs, ev_back, ev_anyS0, ev_anySd, ev_anySs, ev_backF0, ev_backF1, ev_back1o, ev_back1d, ev_back1u, ev_got0, ev_gotd, ev_gots, ev_mItems, ev_itemsL, ev_itemsT, ev_mSigns, ev_mMeth, ev_chkL, ev_updO, ev_gAppend, ev_mSetIx, ev_gSet, ev_mRng, ev_rg1, ev_rg2, ev_mFor, ev_raise, ev_cI, ev_add, ev_sub, ev_abs, ev_max, ev_min, ev_inti, ev_intb, ev_lenL, ev_lenT, ev_lenS, ev_tupL, ev_tupT, ev_lstL, ev_lstT, ev_ixT, ev_ixL, ev_ixS, ev_at0, ev_at1, ev_at2, ev_at3, ev_at4, ev_at5, ev_at6, ev_at7, ev_ixN0, ev_ixN1, ev_is, ev_isnot, ev_isb, ev_isnotb, ev_addL, opEq_int, opNe_int, mSeq_def, isI, tyN, isN, opLt, opLe, opGt, opGe,
    List.getElem?_cons_zero, List.getElem?_cons_succ, List.getElem?_nil, List.set_cons_zero, List.set_cons_succ, List.length_cons, List.length_nil, List.cons_append, List.nil_append, List.replicate, List.append_nil, decide_true, decide_false, Int.reduceLT, Int.reduceLE, Int.reduceGT, Int.reduceGE, Int.reduceEq, Int.reduceNe, Int.reduceAdd, Int.reduceSub, Int.reduceMul, Int.reduceNeg, Int.reduceToNat, Int.reducePow, Nat.reduceAdd, Nat.reduceLT, Nat.reduceLeDiff, Nat.reduceEqDiff, Nat.reduceBNe, Nat.reduceBEq, gt_iff_lt, ge_iff_le, Bool.and_true, Bool.true_and, Bool.false_and, Bool.and_false, String.reduceBEq, Bool.or_false, Bool.or_true, Bool.true_or, Bool.false_or, and_true, true_and, not_true_eq_false, not_false_eq_true, ne_eq, true_or, or_true, false_or, or_false, and_false, false_and, if_true, if_false, Bool.not_true, Bool.not_false, reduceCtorEq, l__law_digits_1, e]))
  obtain ⟨ρ', e, o', f, t, rfl, e2, e3⟩ := hloop
  refine ⟨f % w, o', ?_, Int.emod_nonneg _ (by omega), Int.emod_lt_of_pos _ (by omega), e2⟩
  unfold d__law_digits b__law_digits
  iterate 3 (try (simp only [Int.cast_ofNat_Int, Int.natCast_zero, Int.natCast_one, ev_compL0, ev_compL1, ev_mTurn, ev_mComp, ev_wipe0, ev_wipe1, ev_rest0, ev_rest1, ev_isOwn0, ev_isOwn1, ev_con0, ev_con1, ev_all, ev_any, ev_bools0, ev_bools1, List.all_cons, List.all_nil, List.any_cons, List.any_nil, id_eq, ev_bnd, ev_ret, ev_fail, ev_lift, ev_lift0, ev_opnd, ev_opnds, ev_slD, ev_ra, ev_rv, ev_mBin, ev_mBinO, ev_dr, ev_dz, ev_doz, ev_ode, ev_ac, ev_mB1, ev_mBO, ev_opndsL, ev_rsvs0, ev_rsvs1, ev_rsvd, ev_rsvs, ev_bindS, ev_mTrue, ev_mB, ev_mAnd, ev_mOr, ev_mNot, ev_mIf, ev_mTup, ev_mLst, ev_argsD0, ev_argsD1, ev_vals, ev_mRet, ev_sto, ev_sto2, ev_mPar2, ev_mPar3, ev_gN, ev_gTt, ev_gTl, ev_tgt0, ev_tgt1, ev_gF, ev_fzd, ev_fzo, ev_mOwn, ev_mOut, ev_mIsI, ev_mNeg, ev_opNeg, ev_mSl, ev_mSlL, ev_slcT, ev_slcL, ev_mPart, ev_mRev, ev_mStr1, ev_mChain, ev_mFun, ev_mask0, ev_mask1, ev_mk1o, ev_mk1f, ev_mk1d, ev_mk1u, ev_mCall, ev_lend0, ev_lend1, ev_lend2, ev_noS0, ev_noSd, ev_noSs, ev_back, ev_anyS0, ev_anySd, ev_anySs, ev_backF0, ev_backF1, ev_back1o, ev_back1d, ev_back1u, ev_got0, ev_gotd, ev_gots, ev_mItems, ev_itemsL, ev_itemsT, ev_mSigns, ev_mMeth, ev_chkL, ev_updO, ev_gAppend, ev_mSetIx, ev_gSet, ev_mRng, ev_rg1, ev_rg2, ev_mFor, ev_raise, ev_cI, ev_add, ev_sub, ev_abs, ev_max, ev_min, ev_inti, ev_intb, ev_lenL, ev_lenT, ev_lenS, ev_tupL, ev_tupT, ev_lstL, ev_lstT, ev_ixT, ev_ixL, ev_ixS, ev_at0, ev_at1, ev_at2, ev_at3, ev_at4, ev_at5, ev_at6, ev_at7, ev_ixN0, ev_ixN1, ev_is, ev_isnot, ev_isb, ev_isnotb, ev_addL, opEq_int, opNe_int, mSeq_def, isI, tyN, isN, opLt, opLe, opGt, opGe,
    List.getElem?_cons_zero, List.getElem?_cons_succ, List.getElem?_nil, List.set_cons_zero, List.set_cons_succ, List.length_cons, List.length_nil, List.cons_append, List.nil_append, List.replicate, List.append_nil, decide_true, decide_false, Int.reduceLT, Int.reduceLE, Int.reduceGT, Int.reduceGE, Int.reduceEq, Int.reduceNe, Int.reduceAdd, Int.reduceSub, Int.reduceMul, Int.reduceNeg, Int.reduceToNat, Int.reducePow, Nat.reduceAdd, Nat.reduceLT, Nat.reduceLeDiff, Nat.reduceEqDiff, Nat.reduceBNe, Nat.reduceBEq, gt_iff_lt, ge_iff_le, Bool.and_true, Bool.true_and, Bool.false_and, Bool.and_false, String.reduceBEq, Bool.or_false, Bool.or_true, Bool.true_or, Bool.false_or, and_true, true_and, not_true_eq_false, not_false_eq_true, ne_eq, true_or, or_true, false_or, or_false, and_false, false_and, if_true, if_false, Bool.not_true, Bool.not_false, reduceCtorEq, e, opMod_int (show w ≠ 0 by omega), fmod_pos (show 0 ≤ w by omega)]))

/-! ### numbers that are drawn -/
def NB (x : Int × Int × Int) : Prop := IsN x ∧ x.1.natAbs < 10 ^ 40 ∧ x.2.1.natAbs < 10 ^ 40 ∧ x.2.2 < 10 ^ 40
theorem low_NB {a b c : Int} (hc : 1 ≤ c) (ha : a.natAbs < 10 ^ 40) (hb : b.natAbs < 10 ^ 40) (hc2 : c < 10 ^ 40) : NB (lowT a b c) := by
  obtain ⟨h1, h2, h3⟩ := lowT_le (a := a) (b := b) (c := c) (by omega)
  have h4 := lowT_isN (a := a) (b := b) (c := c) (by omega)
  refine ⟨h4, Nat.lt_of_le_of_lt h1 ha, Nat.lt_of_le_of_lt h2 hb, ?_⟩
  have := h4.1
  omega
theorem low_any {a b c : Int} (hc : 1 ≤ c) (hc2 : c < 10 ^ 40) : d__law_low [.d (.int a), .d (.int b), .d (.int c)] = some (.ok (.d (num (lowT a b c))) [.un, .un, .un]) :=
  low_ok (n := 140) (by omega) (by have : (10 : Int) ^ 40 < 2 ^ 140 := by decide
                                   omega) (by decide)
theorem four {x : Int} (h0 : 0 ≤ x) (h8 : x < 4) : x = 0 ∨ x = 1 ∨ x = 2 ∨ x = 3 := by omega
theorem pick4 {x : Int} (h0 : 0 ≤ x) (h8 : x < 4) (a b c d : D) : atI [a, b, c, d] x = some a ∨ atI [a, b, c, d] x = some b ∨ atI [a, b, c, d] x = some c ∨ atI [a, b, c, d] x = some d := by
  rcases four h0 h8 with rfl | rfl | rfl | rfl
  · exact .inl rfl
  · exact .inr (.inl rfl)
  · exact .inr (.inr (.inl rfl))
  · exact .inr (.inr (.inr rfl))
theorem number_ok {o : Oo} (h : GB o) : ∃ (x : Int × Int × Int) (o' : Oo), d__law_number [.own true o] = some (.ok (.d (num x)) [.own true o']) ∧ NB x ∧ GB o' := by
  obtain ⟨r0, o0, e0, r00, r01, g0⟩ := take_ok h (n := 4) (by decide) (by decide)
  obtain ⟨w, hw, hw1, hw2⟩ : ∃ w : Int, atI [PyData.int 4, .int 10, .int 100, .int 1000000] r0 = some (.int w) ∧ 4 ≤ w ∧ w ≤ 1000000 := by
    rcases four r00 r01 with q | q | q | q <;> rw [q]
    · exact ⟨4, rfl, by decide, by decide⟩
    · exact ⟨10, rfl, by decide, by decide⟩
    · exact ⟨100, rfl, by decide, by decide⟩
    · exact ⟨1000000, rfl, by decide, by decide⟩
  obtain ⟨r1, o1, e1, r10, r11, g1⟩ := take_ok g0 (n := w) (by omega) (by omega)
  obtain ⟨r2, o2, e2, r20, r21, g2⟩ := take_ok g1 (n := w) (by omega) (by omega)
  obtain ⟨r3, o3, e3, r30, r31, g3⟩ := take_ok g2 (n := w - 1) (by omega) (by omega)
  obtain ⟨r4, o4, e4, r40, r41, g4⟩ := take_ok g3 (n := 8) (by omega) (by omega)
  have hd : divOk w 2 := divOk_of (n := 2) (by decide) (by decide) (by decide)
  generalize hA : r1 - w / 2 = A
  generalize hB : r2 - w / 2 = B
  generalize hC : 1 + r3 = C
  have hA2 : A.natAbs ≤ 2000000 := by omega
  have hB2 : B.natAbs ≤ 2000000 := by omega
  have hC2 : 1 ≤ C ∧ C ≤ 2000000 := by omega
  obtain ⟨a, ea, ha⟩ : ∃ a : Int, atI [PyData.int A, .int A, .int A, .int A, .int A, .int A, .int A, .int 0] r4 = some (.int a) ∧ a.natAbs ≤ 2000000 := by
    rcases eight r40 r41 with q | q | q | q | q | q | q | q <;> rw [q] <;> first | exact ⟨A, rfl, hA2⟩ | exact ⟨0, rfl, by decide⟩
  obtain ⟨b, eb, hb⟩ : ∃ a : Int, atI [PyData.int B, .int B, .int B, .int B, .int B, .int 0, .int 0, .int B] r4 = some (.int a) ∧ a.natAbs ≤ 2000000 := by
    rcases eight r40 r41 with q | q | q | q | q | q | q | q <;> rw [q] <;> first | exact ⟨B, rfl, hB2⟩ | exact ⟨0, rfl, by decide⟩
  obtain ⟨c, ec, hc⟩ : ∃ a : Int, atI [PyData.int C, .int C, .int 1, .int C, .int 1, .int C, .int 1, .int C] r4 = some (.int a) ∧ 1 ≤ a ∧ a ≤ 2000000 := by
    rcases eight r40 r41 with q | q | q | q | q | q | q | q <;> rw [q] <;> first | exact ⟨C, rfl, hC2⟩ | exact ⟨1, rfl, by decide⟩
  have sz4 : (4 : Nat) ≤ sizeLine := by decide
  have sz8 : (8 : Nat) ≤ sizeLine := by decide
  refine ⟨lowT a b c, o4, ?_, low_NB hc.1 (by omega) (by omega) (by omega), g4⟩
  unfold d__law_number b__law_number
  iterate 3 (try (simp only [Int.cast_ofNat_Int, Int.natCast_zero, Int.natCast_one, ev_compL0, ev_compL1, ev_mTurn, ev_mComp, ev_wipe0, ev_wipe1, ev_rest0, ev_rest1, ev_isOwn0, ev_isOwn1, ev_con0, ev_con1, ev_all, ev_any, ev_bools0, ev_bools1, List.all_cons, List.all_nil, List.any_cons, List.any_nil, id_eq, ev_bnd, ev_ret, ev_fail, ev_lift, ev_lift0, ev_opnd, ev_opnds, ev_slD, ev_ra, ev_rv, ev_mBin, ev_mBinO, ev_dr, ev_dz, ev_doz, ev_ode, ev_ac, ev_mB1, ev_mBO, ev_opndsL, ev_rsvs0, ev_rsvs1, ev_rsvd, ev_rsvs, ev_bindS, ev_mTrue, ev_mB, ev_mAnd, ev_mOr, ev_mNot, ev_mIf, ev_mTup, ev_mLst, ev_argsD0, ev_argsD1, ev_vals, ev_mRet, ev_sto, ev_sto2, ev_mPar2, ev_mPar3, ev_gN, ev_gTt, ev_gTl, ev_tgt0, ev_tgt1, ev_gF, ev_fzd, ev_fzo, ev_mOwn, ev_mOut, ev_mIsI, ev_mNeg, ev_opNeg, ev_mSl, ev_mSlL, ev_slcT, ev_slcL, ev_mPart, ev_mRev, ev_mStr1, ev_mChain, ev_mFun, ev_mask0, ev_mask1, ev_mk1o, ev_mk1f, ev_mk1d, ev_mk1u, ev_mCall, ev_lend0, ev_lend1, ev_lend2, ev_noS0, ev_noSd, ev_noSs, ev_back, ev_anyS0, ev_anySd, ev_anySs, ev_backF0, ev_backF1, ev_back1o, ev_back1d, ev_back1u, ev_got0, ev_gotd, ev_gots, ev_mItems, ev_itemsL, ev_itemsT, ev_mSigns, ev_mMeth, ev_chkL, ev_updO, ev_gAppend, ev_mSetIx, ev_gSet, ev_mRng, ev_rg1, ev_rg2, ev_mFor, ev_raise, ev_cI, ev_add, ev_sub, ev_abs, ev_max, ev_min, ev_inti, ev_intb, ev_lenL, ev_lenT, ev_lenS, ev_tupL, ev_tupT, ev_lstL, ev_lstT, ev_ixT, ev_ixL, ev_ixS, ev_at0, ev_at1, ev_at2, ev_at3, ev_at4, ev_at5, ev_at6, ev_at7, ev_ixN0, ev_ixN1, ev_is, ev_isnot, ev_isb, ev_isnotb, ev_addL, opEq_int, opNe_int, mSeq_def, isI, tyN, isN, opLt, opLe, opGt, opGe,
    List.getElem?_cons_zero, List.getElem?_cons_succ, List.getElem?_nil, List.set_cons_zero, List.set_cons_succ, List.length_cons, List.length_nil, List.cons_append, List.nil_append, List.replicate, List.append_nil, decide_true, decide_false, Int.reduceLT, Int.reduceLE, Int.reduceGT, Int.reduceGE, Int.reduceEq, Int.reduceNe, Int.reduceAdd, Int.reduceSub, Int.reduceMul, Int.reduceNeg, Int.reduceToNat, Int.reducePow, Nat.reduceAdd, Nat.reduceLT, Nat.reduceLeDiff, Nat.reduceEqDiff, Nat.reduceBNe, Nat.reduceBEq, gt_iff_lt, ge_iff_le, Bool.and_true, Bool.true_and, Bool.false_and, Bool.and_false, String.reduceBEq, Bool.or_false, Bool.or_true, Bool.true_or, Bool.false_or, and_true, true_and, not_true_eq_false, not_false_eq_true, ne_eq, true_or, or_true, false_or, or_false, and_false, false_and, if_true, if_false, Bool.not_true, Bool.not_false, reduceCtorEq, e0, hw, e1, e2, e3, e4, opFdiv_int hd, fdiv_pos (show (0 : Int) ≤ 2 by decide), hA, hB, hC, ea, eb, ec, low_any hc.1 (show c < 10 ^ 40 by omega), sz4, sz8]))
theorem any_ok {o : Oo} (h : GB o) : ∃ (x : Int × Int × Int) (o' : Oo), d__law_any_number [.own true o] = some (.ok (.d (num x)) [.own true o']) ∧ NB x ∧ GB o' := by
  obtain ⟨r0, o0, e0, r00, r01, g0⟩ := take_ok h (n := 4) (by decide) (by decide)
  by_cases h2 : r0 < 2
  · obtain ⟨x, o1, e1, n1, g1⟩ := number_ok g0
    refine ⟨x, o1, ?_, n1, g1⟩
    unfold d__law_any_number b__law_any_number
    iterate 3 (try (simp only [Int.cast_ofNat_Int, Int.natCast_zero, Int.natCast_one, ev_compL0, ev_compL1, ev_mTurn, ev_mComp, ev_wipe0, ev_wipe1, ev_rest0, ev_rest1, ev_isOwn0, ev_isOwn1, ev_con0, ev_con1, ev_all, ev_any, ev_bools0, ev_bools1, List.all_cons, List.all_nil, List.any_cons, List.any_nil, id_eq, ev_bnd, ev_ret, ev_fail, ev_lift, ev_lift0, ev_opnd, ev_opnds, ev_slD, ev_ra, ev_rv, ev_mBin, ev_mBinO, ev_dr, ev_dz, ev_doz, ev_ode, ev_ac, ev_mB1, ev_mBO, ev_opndsL, ev_rsvs0, ev_rsvs1, ev_rsvd, ev_rsvs, ev_bindS, ev_mTrue, ev_mB, ev_mAnd, ev_mOr, ev_mNot, ev_mIf, ev_mTup, ev_mLst, ev_argsD0, ev_argsD1, ev_vals, ev_mRet, ev_sto, ev_sto2, ev_mPar2, ev_mPar3, ev_gN, ev_gTt, ev_gTl, ev_tgt0, ev_tgt1, ev_gF, ev_fzd, ev_fzo, ev_mOwn, ev_mOut, ev_mIsI, ev_mNeg, ev_opNeg, ev_mSl, ev_mSlL, ev_slcT, ev_slcL, ev_mPart, ev_mRev, ev_mStr1, ev_mChain, ev_mFun, ev_mask0, ev_mask1, ev_mk1o, ev_mk1f, ev_mk1d, ev_mk1u, ev_mCall, ev_lend0, ev_lend1, ev_lend2, ev_noS0, ev_noSd, ev_noSs, ev_back, ev_anyS0, ev_anySd, ev_anySs, ev_backF0, ev_backF1, ev_back1o, ev_back1d, ev_back1u, ev_got0, ev_gotd, ev_gots, ev_mItems, ev_itemsL, ev_itemsT, ev_mSigns, ev_mMeth, ev_chkL, ev_updO, ev_gAppend, ev_mSetIx, ev_gSet, ev_mRng, ev_rg1, ev_rg2, ev_mFor, ev_raise, ev_cI, ev_add, ev_sub, ev_abs, ev_max, ev_min, ev_inti, ev_intb, ev_lenL, ev_lenT, ev_lenS, ev_tupL, ev_tupT, ev_lstL, ev_lstT, ev_ixT, ev_ixL, ev_ixS, ev_at0, ev_at1, ev_at2, ev_at3, ev_at4, ev_at5, ev_at6, ev_at7, ev_ixN0, ev_ixN1, ev_is, ev_isnot, ev_isb, ev_isnotb, ev_addL, opEq_int, opNe_int, mSeq_def, isI, tyN, isN, opLt, opLe, opGt, opGe,
    List.getElem?_cons_zero, List.getElem?_cons_succ, List.getElem?_nil, List.set_cons_zero, List.set_cons_succ, List.length_cons, List.length_nil, List.cons_append, List.nil_append, List.replicate, List.append_nil, decide_true, decide_false, Int.reduceLT, Int.reduceLE, Int.reduceGT, Int.reduceGE, Int.reduceEq, Int.reduceNe, Int.reduceAdd, Int.reduceSub, Int.reduceMul, Int.reduceNeg, Int.reduceToNat, Int.reducePow, Nat.reduceAdd, Nat.reduceLT, Nat.reduceLeDiff, Nat.reduceEqDiff, Nat.reduceBNe, Nat.reduceBEq, gt_iff_lt, ge_iff_le, Bool.and_true, Bool.true_and, Bool.false_and, Bool.and_false, String.reduceBEq, Bool.or_false, Bool.or_true, Bool.true_or, Bool.false_or, and_true, true_and, not_true_eq_false, not_false_eq_true, ne_eq, true_or, or_true, false_or, or_false, and_false, false_and, if_true, if_false, Bool.not_true, Bool.not_false, reduceCtorEq, e0, h2, e1]))
  obtain ⟨rm, om, em, rm0, rm1, gm⟩ := take_ok g0 (n := 39) (by decide) (by decide)
  obtain ⟨m, hm, hm0, hm1⟩ : ∃ m : Int, atI [PyData.int 39, .int rm] (3 - r0) = some (.int m) ∧ 0 ≤ m ∧ m ≤ 39 := by
    have : r0 = 2 ∨ r0 = 3 := by omega
    rcases this with q | q <;> rw [q]
    · exact ⟨rm, rfl, by omega, by omega⟩
    · exact ⟨39, rfl, by decide, by decide⟩
  have sz2 : (2 : Nat) ≤ sizeLine := by decide
  have sz4 : (4 : Nat) ≤ sizeLine := by decide
  have sz5 : (5 : Nat) ≤ sizeLine := by decide
  have rgm : rg1 [.int m] = some (rangeL 0 m.toNat) := by rw [ev_rg1, if_pos (by omega)]
  obtain ⟨w, t, hl, hw1, hw2, ht⟩ : ∃ (w : Int) (t : Sl), l__law_any_number_1 [.own true o0, .d (.int r0), .d (.int 10), .un, .un, .un, .un, .un] = some (.ok .nx [.own true om, .d (.int r0), .d (.int w), t, .un, .un, .un, .un]) ∧ 10 ≤ w ∧ w ≤ 10 ^ 40 ∧ ((∃ x, t = .d x) ∨ t = .un) := by
    have key : ∃ ρ', forL (gN 3) w__law_any_number_1 (rangeL 0 m.toNat) [.own true om, .d (.int r0), .d (.int 10), .un, .un, .un, .un, .un] = some (.ok .nx ρ') ∧ ∃ (w : Int) (t : Sl), ρ' = [.own true om, .d (.int r0), .d (.int w), t, .un, .un, .un, .un] ∧ 10 ≤ w ∧ w ≤ 10 ^ (40 - ([] : List D).length) ∧ ([] : List D).length ≤ 39 ∧ ((∃ x, t = .d x) ∨ t = .un) := by
      refine forL_inv (fun xs ρ => ∃ (w : Int) (t : Sl), ρ = [.own true om, .d (.int r0), .d (.int w), t, .un, .un, .un, .un] ∧ 10 ≤ w ∧ w ≤ 10 ^ (40 - xs.length) ∧ xs.length ≤ 39 ∧ ((∃ x, t = .d x) ∨ t = .un)) ⟨10, .un, rfl, by decide, ?_, by rw [rangeL_len]; omega, .inr rfl⟩ ?_
      · rw [rangeL_len]
        have := Nat.pow_le_pow_right (n := 10) (by decide) (show 1 ≤ 40 - m.toNat by omega)
        exact_mod_cast this
      rintro x r ρ ⟨w, t, rfl, h0, h1, h2, h3⟩
      have h2 : r.length + 1 ≤ 39 := h2
      have h1 : w ≤ 10 ^ (40 - (r.length + 1)) := h1
      have hp : (10 : Int) ^ (40 - r.length) = 10 ^ (40 - (r.length + 1)) * 10 := by
        rw [show 40 - r.length = (40 - (r.length + 1)) + 1 by omega, Int.pow_succ]
      have hb : (10 : Int) ^ (40 - (r.length + 1)) ≤ 10 ^ 40 := by
        have := Nat.pow_le_pow_right (n := 10) (by decide) (show 40 - (r.length + 1) ≤ 40 by omega)
        exact_mod_cast this
      have hm : mulOk w 10 := mulOk_of (n := 140) (m := 14) (by have : (10 : Int) ^ 40 < 2 ^ 140 := by decide
                                                                omega) (by decide) (by decide)
      refine ⟨[.own true om, .d (.int r0), .d (.int w), .d x, .un, .un, .un, .un], [.own true om, .d (.int r0), .d (.int (w * 10)), .d x, .un, .un, .un, .un], ?_, ?_, w * 10, .d x, rfl, by omega, by rw [hp]; omega, by omega, .inl ⟨x, rfl⟩⟩
      · rcases h3 with ⟨y, rfl⟩ | rfl
        · rfl
        · rfl
      · iterate 3 (try (simp only [Int.cast_ofNat_Int, Int.natCast_zero, Int.natCast_one, ev_compL0, ev_compL1, ev_mTurn, ev_mComp, ev_wipe0, ev_wipe1, ev_rest0, ev_rest1, ev_isOwn0, ev_isOwn1, ev_con0, ev_con1, ev_all, ev_any, ev_bools0, ev_bools1, List.all_cons, List.all_nil, List.any_cons, List.any_nil, id_eq, ev_bnd, ev_ret, ev_fail, ev_lift, ev_lift0, ev_opnd, ev_opnds, ev_slD, ev_ra, ev_rv, ev_mBin, ev_mBinO, ev_dr, ev_dz, ev_doz, ev_ode, ev_ac, ev_mB1, ev_mBO, ev_opndsL, ev_rsvs0, ev_rsvs1, ev_rsvd, ev_rsvs, ev_bindS, ev_mTrue, ev_mB, ev_mAnd, ev_mOr, ev_mNot, ev_mIf, ev_mTup, ev_mLst, ev_argsD0, ev_argsD1, ev_vals, ev_mRet, ev_sto, ev_sto2, ev_mPar2, ev_mPar3, ev_gN, ev_gTt, ev_gTl, ev_tgt0, ev_tgt1, ev_gF, ev_fzd, ev_fzo, ev_mOwn, ev_mOut, ev_mIsI, ev_mNeg, ev_opNeg, ev_mSl, ev_mSlL, ev_slcT, ev_slcL, ev_mPart, ev_mRev, ev_mStr1, ev_mChain, ev_mFun, ev_mask0, ev_mask1, ev_mk1o, ev_mk1f, ev_mk1d, ev_mk1u, ev_mCall, ev_lend0, ev_lend1, ev_lend2, ev_noS0, ev_noSd, ev_noSs, ev_back, ev_anyS0, ev_anySd, ev_anySs, ev_backF0, ev_backF1, ev_back1o, ev_back1d, ev_back1u, ev_got0, ev_gotd, ev_gots, ev_mItems, ev_itemsL, ev_itemsT, ev_mSigns, ev_mMeth, ev_chkL, ev_updO, ev_gAppend, ev_mSetIx, ev_gSet, ev_mRng, ev_rg1, ev_rg2, ev_mFor, ev_raise, ev_cI, ev_add, ev_sub, ev_abs, ev_max, ev_min, ev_inti, ev_intb, ev_lenL, ev_lenT, ev_lenS, ev_tupL, ev_tupT, ev_lstL, ev_lstT, ev_ixT, ev_ixL, ev_ixS, ev_at0, ev_at1, ev_at2, ev_at3, ev_at4, ev_at5, ev_at6, ev_at7, ev_ixN0, ev_ixN1, ev_is, ev_isnot, ev_isb, ev_isnotb, ev_addL, opEq_int, opNe_int, mSeq_def, isI, tyN, isN, opLt, opLe, opGt, opGe,
    List.getElem?_cons_zero, List.getElem?_cons_succ, List.getElem?_nil, List.set_cons_zero, List.set_cons_succ, List.length_cons, List.length_nil, List.cons_append, List.nil_append, List.replicate, List.append_nil, decide_true, decide_false, Int.reduceLT, Int.reduceLE, Int.reduceGT, Int.reduceGE, Int.reduceEq, Int.reduceNe, Int.reduceAdd, Int.reduceSub, Int.reduceMul, Int.reduceNeg, Int.reduceToNat, Int.reducePow, Nat.reduceAdd, Nat.reduceLT, Nat.reduceLeDiff, Nat.reduceEqDiff, Nat.reduceBNe, Nat.reduceBEq, gt_iff_lt, ge_iff_le, Bool.and_true, Bool.true_and, Bool.false_and, Bool.and_false, String.reduceBEq, Bool.or_false, Bool.or_true, Bool.true_or, Bool.false_or, and_true, true_and, not_true_eq_false, not_false_eq_true, ne_eq, true_or, or_true, false_or, or_false, and_false, false_and, if_true, if_false, Bool.not_true, Bool.not_false, reduceCtorEq, w__law_any_number_1, opMul_int hm]))
    obtain ⟨ρ', e, w, t, rfl, h1, h2, _, h3⟩ := key
    refine ⟨w, t, ?_, h1, h2, h3⟩
    iterate 3 (try (simp only [Int.cast_ofNat_Int, Int.natCast_zero, Int.natCast_one, ev_compL0, ev_compL1, ev_mTurn, ev_mComp, ev_wipe0, ev_wipe1, ev_rest0, ev_rest1, ev_isOwn0, ev_isOwn1, ev_con0, ev_con1, ev_all, ev_any, ev_bools0, ev_bools1, List.all_cons, List.all_nil, List.any_cons, List.any_nil, id_eq, ev_bnd, ev_ret, ev_fail, ev_lift, ev_lift0, ev_opnd, ev_opnds, ev_slD, ev_ra, ev_rv, ev_mBin, ev_mBinO, ev_dr, ev_dz, ev_doz, ev_ode, ev_ac, ev_mB1, ev_mBO, ev_opndsL, ev_rsvs0, ev_rsvs1, ev_rsvd, ev_rsvs, ev_bindS, ev_mTrue, ev_mB, ev_mAnd, ev_mOr, ev_mNot, ev_mIf, ev_mTup, ev_mLst, ev_argsD0, ev_argsD1, ev_vals, ev_mRet, ev_sto, ev_sto2, ev_mPar2, ev_mPar3, ev_gN, ev_gTt, ev_gTl, ev_tgt0, ev_tgt1, ev_gF, ev_fzd, ev_fzo, ev_mOwn, ev_mOut, ev_mIsI, ev_mNeg, ev_opNeg, ev_mSl, ev_mSlL, ev_slcT, ev_slcL, ev_mPart, ev_mRev, ev_mStr1, ev_mChain, ev_mFun, ev_mask0, ev_mask1, ev_mk1o, ev_mk1f, ev_mk1d, ev_mk1u, ev_mCall, ev_lend0, ev_lend1, ev_lend2, ev_noS0, ev_noSd, ev_noSs, ev_back, ev_anyS0, ev_anySd, ev_anySs, ev_backF0, ev_backF1, ev_back1o, ev_back1d, ev_back1u, ev_got0, ev_gotd, ev_gots, ev_mItems, ev_itemsL, ev_itemsT, ev_mSigns, ev_mMeth, ev_chkL, ev_updO, ev_gAppend, ev_mSetIx, ev_gSet, ev_mRng, ev_rg1, ev_rg2, ev_mFor, ev_raise, ev_cI, ev_add, ev_sub, ev_abs, ev_max, ev_min, ev_inti, ev_intb, ev_lenL, ev_lenT, ev_lenS, ev_tupL, ev_tupT, ev_lstL, ev_lstT, ev_ixT, ev_ixL, ev_ixS, ev_at0, ev_at1, ev_at2, ev_at3, ev_at4, ev_at5, ev_at6, ev_at7, ev_ixN0, ev_ixN1, ev_is, ev_isnot, ev_isb, ev_isnotb, ev_addL, opEq_int, opNe_int, mSeq_def, isI, tyN, isN, opLt, opLe, opGt, opGe,
    List.getElem?_cons_zero, List.getElem?_cons_succ, List.getElem?_nil, List.set_cons_zero, List.set_cons_succ, List.length_cons, List.length_nil, List.cons_append, List.nil_append, List.replicate, List.append_nil, decide_true, decide_false, Int.reduceLT, Int.reduceLE, Int.reduceGT, Int.reduceGE, Int.reduceEq, Int.reduceNe, Int.reduceAdd, Int.reduceSub, Int.reduceMul, Int.reduceNeg, Int.reduceToNat, Int.reducePow, Nat.reduceAdd, Nat.reduceLT, Nat.reduceLeDiff, Nat.reduceEqDiff, Nat.reduceBNe, Nat.reduceBEq, gt_iff_lt, ge_iff_le, Bool.and_true, Bool.true_and, Bool.false_and, Bool.and_false, String.reduceBEq, Bool.or_false, Bool.or_true, Bool.true_or, Bool.false_or, and_true, true_and, not_true_eq_false, not_false_eq_true, ne_eq, true_or, or_true, false_or, or_false, and_false, false_and, if_true, if_false, Bool.not_true, Bool.not_false, reduceCtorEq, -ev_rg1, l__law_any_number_1, em, hm, rgm, e, sz2]))
  obtain ⟨d1, o1, e1, d10, d11, g1⟩ := digits_ok gm (w := w) (by omega)
  obtain ⟨s1, o2, e2, s10, s11, g2⟩ := take_ok g1 (n := 2) (by decide) (by decide)
  obtain ⟨d2, o3, e3, d20, d21, g3⟩ := digits_ok g2 (w := w) (by omega)
  obtain ⟨s2, o4, e4, s20, s21, g4⟩ := take_ok g3 (n := 2) (by decide) (by decide)
  obtain ⟨d3, o5, e5, d30, d31, g5⟩ := digits_ok g4 (w := w) (by omega)
  obtain ⟨k1, o6, e6, k10, k11, g6⟩ := take_ok g5 (n := 4) (by decide) (by decide)
  obtain ⟨k2, o7, e7, k20, k21, g7⟩ := take_ok g6 (n := 5) (by decide) (by decide)
  obtain ⟨k3, o8, e8, k30, k31, g8⟩ := take_ok g7 (n := 2) (by decide) (by decide)
  have two : ∀ s : Int, 0 ≤ s → s < 2 → 1 - 2 * s = 1 ∨ 1 - 2 * s = -1 := by intro s _ _; omega
  have m2 : ∀ s : Int, 0 ≤ s → s < 2 → mulOk 2 s := fun s _ _ => mulOk_of (n := 2) (m := 2) (by decide) (by omega) (by decide)
  have hbig : (10 : Int) ^ 40 < 2 ^ 140 := by decide
  have mm : ∀ d s : Int, 0 ≤ d → d < w → 0 ≤ s → s < 2 → mulOk d (1 - 2 * s) := fun d s _ _ _ _ => mulOk_of (n := 140) (m := 2) (by omega) (by omega) (by decide)
  have ab : ∀ d s : Int, 0 ≤ d → d < w → 0 ≤ s → s < 2 → (d * (1 - 2 * s)).natAbs < 10 ^ 40 := by
    intro d s q1 q2 q3 q4
    have : d.natAbs < 10 ^ 40 := by omega
    rcases two s q3 q4 with q | q <;> rw [q]
    · rw [Int.mul_one]; exact this
    · rw [Int.mul_neg, Int.mul_one, Int.natAbs_neg]; exact this
  have n1 := mm d1 s1 d10 d11 s10 s11
  have n2 := mm d2 s2 d20 d21 s20 s21
  have a1 := ab d1 s1 d10 d11 s10 s11
  have a2 := ab d2 s2 d20 d21 s20 s21
  have p1 := m2 s1 s10 s11
  have p2 := m2 s2 s20 s21
  generalize hA : d1 * (1 - 2 * s1) = A at *
  generalize hB : d2 * (1 - 2 * s2) = B at *
  have hC0 : 0 ≤ d3 % (w - 1) := Int.emod_nonneg _ (by omega)
  have hC1 : d3 % (w - 1) < w - 1 := Int.emod_lt_of_pos _ (by omega)
  generalize hC : 1 + d3 % (w - 1) = C
  obtain ⟨a, ea, ha⟩ : ∃ a : Int, atI [PyData.int A, .int A, .int 0, .int A] k1 = some (.int a) ∧ a.natAbs < 10 ^ 40 := by
    rcases four k10 k11 with q | q | q | q <;> rw [q] <;> first | exact ⟨A, rfl, a1⟩ | exact ⟨0, rfl, by decide⟩
  obtain ⟨b, eb, hb⟩ : ∃ a : Int, atI [PyData.int B, .int 1, .int B, .int (-1), .int 0] k2 = some (.int a) ∧ a.natAbs < 10 ^ 40 := by
    have : k2 = 0 ∨ k2 = 1 ∨ k2 = 2 ∨ k2 = 3 ∨ k2 = 4 := by omega
    rcases this with q | q | q | q | q <;> rw [q] <;> first | exact ⟨B, rfl, a2⟩ | exact ⟨0, rfl, by decide⟩ | exact ⟨1, rfl, by decide⟩ | exact ⟨-1, rfl, by decide⟩
  obtain ⟨c, ec, hc, hc2⟩ : ∃ a : Int, atI [PyData.int C, .int 1] k3 = some (.int a) ∧ 1 ≤ a ∧ a < 10 ^ 40 := by
    have : k3 = 0 ∨ k3 = 1 := by omega
    rcases this with q | q <;> rw [q] <;> first | exact ⟨C, rfl, by omega, by omega⟩ | exact ⟨1, rfl, by decide, by decide⟩
  have sz0 : (0 : Nat) < sizeLine := by decide
  have sz1 : (1 : Nat) < sizeLine := by decide
  have rg : rangeL 0 2 = [.int 0, .int 1] := rfl
  refine ⟨lowT a b c, o8, ?_, low_NB hc ha hb hc2, g8⟩
  have htw : wipeF [7] 0 [.own true om, .d (.int r0), .d (.int w), t, .un, .un, .un, .un] = some [.own true om, .d (.int r0), .d (.int w), t, .un, .un, .un, .un] := by
    rcases ht with ⟨y, rfl⟩ | rfl <;> rfl
  unfold d__law_any_number b__law_any_number
  iterate 3 (try (simp only [Int.cast_ofNat_Int, Int.natCast_zero, Int.natCast_one, ev_compL0, ev_compL1, ev_mTurn, ev_mComp, ev_wipe0, ev_wipe1, ev_rest0, ev_rest1, ev_isOwn0, ev_isOwn1, ev_con0, ev_con1, ev_all, ev_any, ev_bools0, ev_bools1, List.all_cons, List.all_nil, List.any_cons, List.any_nil, id_eq, ev_bnd, ev_ret, ev_fail, ev_lift, ev_lift0, ev_opnd, ev_opnds, ev_slD, ev_ra, ev_rv, ev_mBin, ev_mBinO, ev_dr, ev_dz, ev_doz, ev_ode, ev_ac, ev_mB1, ev_mBO, ev_opndsL, ev_rsvs0, ev_rsvs1, ev_rsvd, ev_rsvs, ev_bindS, ev_mTrue, ev_mB, ev_mAnd, ev_mOr, ev_mNot, ev_mIf, ev_mTup, ev_mLst, ev_argsD0, ev_argsD1, ev_vals, ev_mRet, ev_sto, ev_sto2, ev_mPar2, ev_mPar3, ev_gN, ev_gTt, ev_gTl, ev_tgt0, ev_tgt1, ev_gF, ev_fzd, ev_fzo, ev_mOwn, ev_mOut, ev_mIsI, ev_mNeg, ev_opNeg, ev_mSl, ev_mSlL, ev_slcT, ev_slcL, ev_mPart, ev_mRev, ev_mStr1, ev_mChain, ev_mFun, ev_mask0, ev_mask1, ev_mk1o, ev_mk1f, ev_mk1d, ev_mk1u, ev_mCall, ev_lend0, ev_lend1, ev_lend2, ev_noS0, ev_noSd, ev_noSs, ev_back, ev_anyS0, ev_anySd, ev_anySs, ev_backF0, ev_backF1, ev_back1o, ev_back1d, ev_back1u, ev_got0, ev_gotd, ev_gots, ev_mItems, ev_itemsL, ev_itemsT, ev_mSigns, ev_mMeth, ev_chkL, ev_updO, ev_gAppend, ev_mSetIx, ev_gSet, ev_mRng, ev_rg1, ev_rg2, ev_mFor, ev_raise, ev_cI, ev_add, ev_sub, ev_abs, ev_max, ev_min, ev_inti, ev_intb, ev_lenL, ev_lenT, ev_lenS, ev_tupL, ev_tupT, ev_lstL, ev_lstT, ev_ixT, ev_ixL, ev_ixS, ev_at0, ev_at1, ev_at2, ev_at3, ev_at4, ev_at5, ev_at6, ev_at7, ev_ixN0, ev_ixN1, ev_is, ev_isnot, ev_isb, ev_isnotb, ev_addL, opEq_int, opNe_int, mSeq_def, isI, tyN, isN, opLt, opLe, opGt, opGe,
    List.getElem?_cons_zero, List.getElem?_cons_succ, List.getElem?_nil, List.set_cons_zero, List.set_cons_succ, List.length_cons, List.length_nil, List.cons_append, List.nil_append, List.replicate, List.append_nil, decide_true, decide_false, Int.reduceLT, Int.reduceLE, Int.reduceGT, Int.reduceGE, Int.reduceEq, Int.reduceNe, Int.reduceAdd, Int.reduceSub, Int.reduceMul, Int.reduceNeg, Int.reduceToNat, Int.reducePow, Nat.reduceAdd, Nat.reduceLT, Nat.reduceLeDiff, Nat.reduceEqDiff, Nat.reduceBNe, Nat.reduceBEq, gt_iff_lt, ge_iff_le, Bool.and_true, Bool.true_and, Bool.false_and, Bool.and_false, String.reduceBEq, Bool.or_false, Bool.or_true, Bool.true_or, Bool.false_or, and_true, true_and, not_true_eq_false, not_false_eq_true, ne_eq, true_or, or_true, false_or, or_false, and_false, false_and, if_true, if_false, Bool.not_true, Bool.not_false, reduceCtorEq, e0, h2, hl]))
  rcases ht with ⟨y, rfl⟩ | rfl
  · iterate 3 (try (simp only [Int.cast_ofNat_Int, Int.natCast_zero, Int.natCast_one, ev_compL0, ev_compL1, ev_mTurn, ev_mComp, ev_wipe0, ev_wipe1, ev_rest0, ev_rest1, ev_isOwn0, ev_isOwn1, ev_con0, ev_con1, ev_all, ev_any, ev_bools0, ev_bools1, List.all_cons, List.all_nil, List.any_cons, List.any_nil, id_eq, ev_bnd, ev_ret, ev_fail, ev_lift, ev_lift0, ev_opnd, ev_opnds, ev_slD, ev_ra, ev_rv, ev_mBin, ev_mBinO, ev_dr, ev_dz, ev_doz, ev_ode, ev_ac, ev_mB1, ev_mBO, ev_opndsL, ev_rsvs0, ev_rsvs1, ev_rsvd, ev_rsvs, ev_bindS, ev_mTrue, ev_mB, ev_mAnd, ev_mOr, ev_mNot, ev_mIf, ev_mTup, ev_mLst, ev_argsD0, ev_argsD1, ev_vals, ev_mRet, ev_sto, ev_sto2, ev_mPar2, ev_mPar3, ev_gN, ev_gTt, ev_gTl, ev_tgt0, ev_tgt1, ev_gF, ev_fzd, ev_fzo, ev_mOwn, ev_mOut, ev_mIsI, ev_mNeg, ev_opNeg, ev_mSl, ev_mSlL, ev_slcT, ev_slcL, ev_mPart, ev_mRev, ev_mStr1, ev_mChain, ev_mFun, ev_mask0, ev_mask1, ev_mk1o, ev_mk1f, ev_mk1d, ev_mk1u, ev_mCall, ev_lend0, ev_lend1, ev_lend2, ev_noS0, ev_noSd, ev_noSs, ev_back, ev_anyS0, ev_anySd, ev_anySs, ev_backF0, ev_backF1, ev_back1o, ev_back1d, ev_back1u, ev_got0, ev_gotd, ev_gots, ev_mItems, ev_itemsL, ev_itemsT, ev_mSigns, ev_mMeth, ev_chkL, ev_updO, ev_gAppend, ev_mSetIx, ev_gSet, ev_mRng, ev_rg1, ev_rg2, ev_mFor, ev_raise, ev_cI, ev_add, ev_sub, ev_abs, ev_max, ev_min, ev_inti, ev_intb, ev_lenL, ev_lenT, ev_lenS, ev_tupL, ev_tupT, ev_lstL, ev_lstT, ev_ixT, ev_ixL, ev_ixS, ev_at0, ev_at1, ev_at2, ev_at3, ev_at4, ev_at5, ev_at6, ev_at7, ev_ixN0, ev_ixN1, ev_is, ev_isnot, ev_isb, ev_isnotb, ev_addL, opEq_int, opNe_int, mSeq_def, isI, tyN, isN, opLt, opLe, opGt, opGe,
    List.getElem?_cons_zero, List.getElem?_cons_succ, List.getElem?_nil, List.set_cons_zero, List.set_cons_succ, List.length_cons, List.length_nil, List.cons_append, List.nil_append, List.replicate, List.append_nil, decide_true, decide_false, Int.reduceLT, Int.reduceLE, Int.reduceGT, Int.reduceGE, Int.reduceEq, Int.reduceNe, Int.reduceAdd, Int.reduceSub, Int.reduceMul, Int.reduceNeg, Int.reduceToNat, Int.reducePow, Nat.reduceAdd, Nat.reduceLT, Nat.reduceLeDiff, Nat.reduceEqDiff, Nat.reduceBNe, Nat.reduceBEq, gt_iff_lt, ge_iff_le, Bool.and_true, Bool.true_and, Bool.false_and, Bool.and_false, String.reduceBEq, Bool.or_false, Bool.or_true, Bool.true_or, Bool.false_or, and_true, true_and, not_true_eq_false, not_false_eq_true, ne_eq, true_or, or_true, false_or, or_false, and_false, false_and, if_true, if_false, Bool.not_true, Bool.not_false, reduceCtorEq, q__law_any_number_1, e__law_any_number_1, rg, sz0, sz1, e1, e2, e3, e4, e5, e6, e7, e8, opMul_int p1, opMul_int p2, opMul_int n1, opMul_int n2, hA, hB, opMod_int (show w - 1 ≠ 0 by omega), fmod_pos (show 0 ≤ w - 1 by omega), hC, ea, eb, ec, low_any hc hc2, sz2, sz4, sz5]))
  · iterate 3 (try (simp only [Int.cast_ofNat_Int, Int.natCast_zero, Int.natCast_one, ev_compL0, ev_compL1, ev_mTurn, ev_mComp, ev_wipe0, ev_wipe1, ev_rest0, ev_rest1, ev_isOwn0, ev_isOwn1, ev_con0, ev_con1, ev_all, ev_any, ev_bools0, ev_bools1, List.all_cons, List.all_nil, List.any_cons, List.any_nil, id_eq, ev_bnd, ev_ret, ev_fail, ev_lift, ev_lift0, ev_opnd, ev_opnds, ev_slD, ev_ra, ev_rv, ev_mBin, ev_mBinO, ev_dr, ev_dz, ev_doz, ev_ode, ev_ac, ev_mB1, ev_mBO, ev_opndsL, ev_rsvs0, ev_rsvs1, ev_rsvd, ev_rsvs, ev_bindS, ev_mTrue, ev_mB, ev_mAnd, ev_mOr, ev_mNot, ev_mIf, ev_mTup, ev_mLst, ev_argsD0, ev_argsD1, ev_vals, ev_mRet, ev_sto, ev_sto2, ev_mPar2, ev_mPar3, ev_gN, ev_gTt, ev_gTl, ev_tgt0, ev_tgt1, ev_gF, ev_fzd, ev_fzo, ev_mOwn, ev_mOut, ev_mIsI, ev_mNeg, ev_opNeg, ev_mSl, ev_mSlL, ev_slcT, ev_slcL, ev_mPart, ev_mRev, ev_mStr1, ev_mChain, ev_mFun, ev_mask0, ev_mask1, ev_mk1o, ev_mk1f, ev_mk1d, ev_mk1u, ev_mCall, ev_lend0, ev_lend1, ev_lend2, ev_noS0, ev_noSd, ev_noSs, ev_back, ev_anyS0, ev_anySd, ev_anySs, ev_backF0, ev_backF1, ev_back1o, ev_back1d, ev_back1u, ev_got0, ev_gotd, ev_gots, ev_mItems, ev_itemsL, ev_itemsT, ev_mSigns, ev_mMeth, ev_chkL, ev_updO, ev_gAppend, ev_mSetIx, ev_gSet, ev_mRng, ev_rg1, ev_rg2, ev_mFor, ev_raise, ev_cI, ev_add, ev_sub, ev_abs, ev_max, ev_min, ev_inti, ev_intb, ev_lenL, ev_lenT, ev_lenS, ev_tupL, ev_tupT, ev_lstL, ev_lstT, ev_ixT, ev_ixL, ev_ixS, ev_at0, ev_at1, ev_at2, ev_at3, ev_at4, ev_at5, ev_at6, ev_at7, ev_ixN0, ev_ixN1, ev_is, ev_isnot, ev_isb, ev_isnotb, ev_addL, opEq_int, opNe_int, mSeq_def, isI, tyN, isN, opLt, opLe, opGt, opGe,
    List.getElem?_cons_zero, List.getElem?_cons_succ, List.getElem?_nil, List.set_cons_zero, List.set_cons_succ, List.length_cons, List.length_nil, List.cons_append, List.nil_append, List.replicate, List.append_nil, decide_true, decide_false, Int.reduceLT, Int.reduceLE, Int.reduceGT, Int.reduceGE, Int.reduceEq, Int.reduceNe, Int.reduceAdd, Int.reduceSub, Int.reduceMul, Int.reduceNeg, Int.reduceToNat, Int.reducePow, Nat.reduceAdd, Nat.reduceLT, Nat.reduceLeDiff, Nat.reduceEqDiff, Nat.reduceBNe, Nat.reduceBEq, gt_iff_lt, ge_iff_le, Bool.and_true, Bool.true_and, Bool.false_and, Bool.and_false, String.reduceBEq, Bool.or_false, Bool.or_true, Bool.true_or, Bool.false_or, and_true, true_and, not_true_eq_false, not_false_eq_true, ne_eq, true_or, or_true, false_or, or_false, and_false, false_and, if_true, if_false, Bool.not_true, Bool.not_false, reduceCtorEq, q__law_any_number_1, e__law_any_number_1, rg, sz0, sz1, e1, e2, e3, e4, e5, e6, e7, e8, opMul_int p1, opMul_int p2, opMul_int n1, opMul_int n2, hA, hB, opMod_int (show w - 1 ≠ 0 by omega), fmod_pos (show 0 ≤ w - 1 by omega), hC, ea, eb, ec, low_any hc hc2, sz2, sz4, sz5]))

/-! ### texts of numbers -/
def rootL (b : Int) : List Nat := if b = 1 then [114] else if b = -1 then [45, 114] else intL b ++ [114]
def midL (a b : Int) : List Nat := intL a ++ (if 0 < b then [43] else []) ++ rootL b
def topL (a b : Int) : List Nat := if b = 0 then intL a else if a = 0 then rootL b else midL a b
def endL (c : Int) : List Nat := if c = 1 then [] else 47 :: intL c
def showL (x : Int × Int × Int) : List Nat := if x.2.1 = 0 ∨ x.1 = 0 ∨ x.2.2 = 1 then topL x.1 x.2.1 ++ endL x.2.2 else 40 :: (midL x.1 x.2.1 ++ [41]) ++ endL x.2.2
theorem numL_len40 {n : Nat} (h : n < 10 ^ 40) : (numL n).length ≤ 40 := numL_len (by decide) h
theorem intL_len {i : Int} (h : i.natAbs < 10 ^ 40) : (intL i).length ≤ 41 := by
  have := numL_len40 h
  unfold intL
  split
  · rw [List.length_cons]; omega
  · omega
theorem rootL_len {i : Int} (h : i.natAbs < 10 ^ 40) : (rootL i).length ≤ 42 := by
  have := intL_len h
  unfold rootL
  split
  · decide
  · split
    · decide
    · rw [List.length_append]; simp; omega
theorem midL_len {a b : Int} (ha : a.natAbs < 10 ^ 40) (h : b.natAbs < 10 ^ 40) : (midL a b).length ≤ 84 := by
  have h1 := intL_len ha
  have h2 := rootL_len h
  have h3 : (if 0 < b then [43] else [] : List Nat).length ≤ 1 := by split <;> decide
  unfold midL
  rw [List.length_append, List.length_append]
  omega
theorem endL_len {c : Int} (h : c.natAbs < 10 ^ 40) : (endL c).length ≤ 42 := by
  have := intL_len h
  unfold endL
  split
  · decide
  · rw [List.length_cons]; omega
theorem log_40 {i : Int} (h : i.natAbs < 10 ^ 40) : i.natAbs.log2 < 1920 :=
  Nat.lt_of_le_of_lt (log2_le_of (n := 133) (Nat.lt_of_lt_of_le h (by decide))) (by decide)
theorem str_ok {i : Int} (h : i.natAbs < 10 ^ 40) : bStr [.int i] = some (S (intL i)) := bStr_int (log_40 h)
theorem opAdd_S1 {a b : List Nat} (h : a.length + b.length ≤ 1000) : opAdd (S a) (S b) = some (S (a ++ b)) := opAdd_S (size_le (by omega))
theorem in_pm (b : Int) : opIn (.int b) (.tuple [.int 1, .int (-1)]) = some (.bool (decide (b = 1) || decide (b = -1))) := by
  show some (PyData.bool ((1 == b) || ((-1 == b) || false))) = _
  rw [Bool.or_false]
  have e1 : ((1 : Int) == b) = decide (b = 1) := by by_cases h : b = 1 <;> simp [h]; omega
  have e2 : ((-1 : Int) == b) = decide (b = -1) := by by_cases h : b = -1 <;> simp [h]; omega
  rw [e1, e2]
theorem root_ok {b : Int} (h : b.natAbs < 10 ^ 40) : d_root_text [.d (.int b)] = some (.ok (.d (S (rootL b))) [.un]) := by
  have sz2 : (2 : Nat) ≤ sizeLine := by decide
  have hl := intL_len h
  unfold d_root_text b_root_text rootL
  by_cases h1 : b = 1
  · subst h1
    iterate 3 (try (simp only [Int.cast_ofNat_Int, Int.natCast_zero, Int.natCast_one, ev_compL0, ev_compL1, ev_mTurn, ev_mComp, ev_wipe0, ev_wipe1, ev_rest0, ev_rest1, ev_isOwn0, ev_isOwn1, ev_con0, ev_con1, ev_all, ev_any, ev_bools0, ev_bools1, List.all_cons, List.all_nil, List.any_cons, List.any_nil, id_eq, ev_bnd, ev_ret, ev_fail, ev_lift, ev_lift0, ev_opnd, ev_opnds, ev_slD, ev_ra, ev_rv, ev_mBin, ev_mBinO, ev_dr, ev_dz, ev_doz, ev_ode, ev_ac, ev_mB1, ev_mBO, ev_opndsL, ev_rsvs0, ev_rsvs1, ev_rsvd, ev_rsvs, ev_bindS, ev_mTrue, ev_mB, ev_mAnd, ev_mOr, ev_mNot, ev_mIf, ev_mTup, ev_mLst, ev_argsD0, ev_argsD1, ev_vals, ev_mRet, ev_sto, ev_sto2, ev_mPar2, ev_mPar3, ev_gN, ev_gTt, ev_gTl, ev_tgt0, ev_tgt1, ev_gF, ev_fzd, ev_fzo, ev_mOwn, ev_mOut, ev_mIsI, ev_mNeg, ev_opNeg, ev_mSl, ev_mSlL, ev_slcT, ev_slcL, ev_mPart, ev_mRev, ev_mStr1, ev_mChain, ev_mFun, ev_mask0, ev_mask1, ev_mk1o, ev_mk1f, ev_mk1d, ev_mk1u, ev_mCall, ev_lend0, ev_lend1, ev_lend2, ev_noS0, ev_noSd, ev_noSs, ev_back, ev_anyS0, ev_anySd, ev_anySs, ev_backF0, ev_backF1, ev_back1o, ev_back1d, ev_back1u, ev_got0, ev_gotd, ev_gots, ev_mItems, ev_itemsL, ev_itemsT, ev_mSigns, ev_mMeth, ev_chkL, ev_updO, ev_gAppend, ev_mSetIx, ev_gSet, ev_mRng, ev_rg1, ev_rg2, ev_mFor, ev_raise, ev_cI, ev_add, ev_sub, ev_abs, ev_max, ev_min, ev_inti, ev_intb, ev_lenL, ev_lenT, ev_lenS, ev_tupL, ev_tupT, ev_lstL, ev_lstT, ev_ixT, ev_ixL, ev_ixS, ev_at0, ev_at1, ev_at2, ev_at3, ev_at4, ev_at5, ev_at6, ev_at7, ev_ixN0, ev_ixN1, ev_is, ev_isnot, ev_isb, ev_isnotb, ev_addL, opEq_int, opNe_int, mSeq_def, isI, tyN, isN, opLt, opLe, opGt, opGe,
    List.getElem?_cons_zero, List.getElem?_cons_succ, List.getElem?_nil, List.set_cons_zero, List.set_cons_succ, List.length_cons, List.length_nil, List.cons_append, List.nil_append, List.replicate, List.append_nil, decide_true, decide_false, Int.reduceLT, Int.reduceLE, Int.reduceGT, Int.reduceGE, Int.reduceEq, Int.reduceNe, Int.reduceAdd, Int.reduceSub, Int.reduceMul, Int.reduceNeg, Int.reduceToNat, Int.reducePow, Nat.reduceAdd, Nat.reduceLT, Nat.reduceLeDiff, Nat.reduceEqDiff, Nat.reduceBNe, Nat.reduceBEq, gt_iff_lt, ge_iff_le, Bool.and_true, Bool.true_and, Bool.false_and, Bool.and_false, String.reduceBEq, Bool.or_false, Bool.or_true, Bool.true_or, Bool.false_or, and_true, true_and, not_true_eq_false, not_false_eq_true, ne_eq, true_or, or_true, false_or, or_false, and_false, false_and, if_true, if_false, Bool.not_true, Bool.not_false, reduceCtorEq, in_pm, lit_r, sz2]))
  by_cases h2 : b = -1
  · subst h2
    iterate 3 (try (simp only [Int.cast_ofNat_Int, Int.natCast_zero, Int.natCast_one, ev_compL0, ev_compL1, ev_mTurn, ev_mComp, ev_wipe0, ev_wipe1, ev_rest0, ev_rest1, ev_isOwn0, ev_isOwn1, ev_con0, ev_con1, ev_all, ev_any, ev_bools0, ev_bools1, List.all_cons, List.all_nil, List.any_cons, List.any_nil, id_eq, ev_bnd, ev_ret, ev_fail, ev_lift, ev_lift0, ev_opnd, ev_opnds, ev_slD, ev_ra, ev_rv, ev_mBin, ev_mBinO, ev_dr, ev_dz, ev_doz, ev_ode, ev_ac, ev_mB1, ev_mBO, ev_opndsL, ev_rsvs0, ev_rsvs1, ev_rsvd, ev_rsvs, ev_bindS, ev_mTrue, ev_mB, ev_mAnd, ev_mOr, ev_mNot, ev_mIf, ev_mTup, ev_mLst, ev_argsD0, ev_argsD1, ev_vals, ev_mRet, ev_sto, ev_sto2, ev_mPar2, ev_mPar3, ev_gN, ev_gTt, ev_gTl, ev_tgt0, ev_tgt1, ev_gF, ev_fzd, ev_fzo, ev_mOwn, ev_mOut, ev_mIsI, ev_mNeg, ev_opNeg, ev_mSl, ev_mSlL, ev_slcT, ev_slcL, ev_mPart, ev_mRev, ev_mStr1, ev_mChain, ev_mFun, ev_mask0, ev_mask1, ev_mk1o, ev_mk1f, ev_mk1d, ev_mk1u, ev_mCall, ev_lend0, ev_lend1, ev_lend2, ev_noS0, ev_noSd, ev_noSs, ev_back, ev_anyS0, ev_anySd, ev_anySs, ev_backF0, ev_backF1, ev_back1o, ev_back1d, ev_back1u, ev_got0, ev_gotd, ev_gots, ev_mItems, ev_itemsL, ev_itemsT, ev_mSigns, ev_mMeth, ev_chkL, ev_updO, ev_gAppend, ev_mSetIx, ev_gSet, ev_mRng, ev_rg1, ev_rg2, ev_mFor, ev_raise, ev_cI, ev_add, ev_sub, ev_abs, ev_max, ev_min, ev_inti, ev_intb, ev_lenL, ev_lenT, ev_lenS, ev_tupL, ev_tupT, ev_lstL, ev_lstT, ev_ixT, ev_ixL, ev_ixS, ev_at0, ev_at1, ev_at2, ev_at3, ev_at4, ev_at5, ev_at6, ev_at7, ev_ixN0, ev_ixN1, ev_is, ev_isnot, ev_isb, ev_isnotb, ev_addL, opEq_int, opNe_int, mSeq_def, isI, tyN, isN, opLt, opLe, opGt, opGe,
    List.getElem?_cons_zero, List.getElem?_cons_succ, List.getElem?_nil, List.set_cons_zero, List.set_cons_succ, List.length_cons, List.length_nil, List.cons_append, List.nil_append, List.replicate, List.append_nil, decide_true, decide_false, Int.reduceLT, Int.reduceLE, Int.reduceGT, Int.reduceGE, Int.reduceEq, Int.reduceNe, Int.reduceAdd, Int.reduceSub, Int.reduceMul, Int.reduceNeg, Int.reduceToNat, Int.reducePow, Nat.reduceAdd, Nat.reduceLT, Nat.reduceLeDiff, Nat.reduceEqDiff, Nat.reduceBNe, Nat.reduceBEq, gt_iff_lt, ge_iff_le, Bool.and_true, Bool.true_and, Bool.false_and, Bool.and_false, String.reduceBEq, Bool.or_false, Bool.or_true, Bool.true_or, Bool.false_or, and_true, true_and, not_true_eq_false, not_false_eq_true, ne_eq, true_or, or_true, false_or, or_false, and_false, false_and, if_true, if_false, Bool.not_true, Bool.not_false, reduceCtorEq, in_pm, lit_mr, lit_r, sz2]))
  iterate 3 (try (simp only [Int.cast_ofNat_Int, Int.natCast_zero, Int.natCast_one, ev_compL0, ev_compL1, ev_mTurn, ev_mComp, ev_wipe0, ev_wipe1, ev_rest0, ev_rest1, ev_isOwn0, ev_isOwn1, ev_con0, ev_con1, ev_all, ev_any, ev_bools0, ev_bools1, List.all_cons, List.all_nil, List.any_cons, List.any_nil, id_eq, ev_bnd, ev_ret, ev_fail, ev_lift, ev_lift0, ev_opnd, ev_opnds, ev_slD, ev_ra, ev_rv, ev_mBin, ev_mBinO, ev_dr, ev_dz, ev_doz, ev_ode, ev_ac, ev_mB1, ev_mBO, ev_opndsL, ev_rsvs0, ev_rsvs1, ev_rsvd, ev_rsvs, ev_bindS, ev_mTrue, ev_mB, ev_mAnd, ev_mOr, ev_mNot, ev_mIf, ev_mTup, ev_mLst, ev_argsD0, ev_argsD1, ev_vals, ev_mRet, ev_sto, ev_sto2, ev_mPar2, ev_mPar3, ev_gN, ev_gTt, ev_gTl, ev_tgt0, ev_tgt1, ev_gF, ev_fzd, ev_fzo, ev_mOwn, ev_mOut, ev_mIsI, ev_mNeg, ev_opNeg, ev_mSl, ev_mSlL, ev_slcT, ev_slcL, ev_mPart, ev_mRev, ev_mStr1, ev_mChain, ev_mFun, ev_mask0, ev_mask1, ev_mk1o, ev_mk1f, ev_mk1d, ev_mk1u, ev_mCall, ev_lend0, ev_lend1, ev_lend2, ev_noS0, ev_noSd, ev_noSs, ev_back, ev_anyS0, ev_anySd, ev_anySs, ev_backF0, ev_backF1, ev_back1o, ev_back1d, ev_back1u, ev_got0, ev_gotd, ev_gots, ev_mItems, ev_itemsL, ev_itemsT, ev_mSigns, ev_mMeth, ev_chkL, ev_updO, ev_gAppend, ev_mSetIx, ev_gSet, ev_mRng, ev_rg1, ev_rg2, ev_mFor, ev_raise, ev_cI, ev_add, ev_sub, ev_abs, ev_max, ev_min, ev_inti, ev_intb, ev_lenL, ev_lenT, ev_lenS, ev_tupL, ev_tupT, ev_lstL, ev_lstT, ev_ixT, ev_ixL, ev_ixS, ev_at0, ev_at1, ev_at2, ev_at3, ev_at4, ev_at5, ev_at6, ev_at7, ev_ixN0, ev_ixN1, ev_is, ev_isnot, ev_isb, ev_isnotb, ev_addL, opEq_int, opNe_int, mSeq_def, isI, tyN, isN, opLt, opLe, opGt, opGe,
    List.getElem?_cons_zero, List.getElem?_cons_succ, List.getElem?_nil, List.set_cons_zero, List.set_cons_succ, List.length_cons, List.length_nil, List.cons_append, List.nil_append, List.replicate, List.append_nil, decide_true, decide_false, Int.reduceLT, Int.reduceLE, Int.reduceGT, Int.reduceGE, Int.reduceEq, Int.reduceNe, Int.reduceAdd, Int.reduceSub, Int.reduceMul, Int.reduceNeg, Int.reduceToNat, Int.reducePow, Nat.reduceAdd, Nat.reduceLT, Nat.reduceLeDiff, Nat.reduceEqDiff, Nat.reduceBNe, Nat.reduceBEq, gt_iff_lt, ge_iff_le, Bool.and_true, Bool.true_and, Bool.false_and, Bool.and_false, String.reduceBEq, Bool.or_false, Bool.or_true, Bool.true_or, Bool.false_or, and_true, true_and, not_true_eq_false, not_false_eq_true, ne_eq, true_or, or_true, false_or, or_false, and_false, false_and, if_true, if_false, Bool.not_true, Bool.not_false, reduceCtorEq, in_pm, h1, h2, lit_r, sz2, str_ok h, opAdd_S1 (show (intL b).length + [114].length ≤ 1000 by simp; omega)]))
theorem lroot_ok {b : Int} (h : b.natAbs < 10 ^ 40) : d__law_roots [.d (.int b)] = some (.ok (.d (S (rootL b))) [.un]) := by
  have hl := intL_len h
  unfold d__law_roots b__law_roots rootL
  by_cases h1 : b = 1
  · subst h1
    iterate 3 (try (simp only [Int.cast_ofNat_Int, Int.natCast_zero, Int.natCast_one, ev_compL0, ev_compL1, ev_mTurn, ev_mComp, ev_wipe0, ev_wipe1, ev_rest0, ev_rest1, ev_isOwn0, ev_isOwn1, ev_con0, ev_con1, ev_all, ev_any, ev_bools0, ev_bools1, List.all_cons, List.all_nil, List.any_cons, List.any_nil, id_eq, ev_bnd, ev_ret, ev_fail, ev_lift, ev_lift0, ev_opnd, ev_opnds, ev_slD, ev_ra, ev_rv, ev_mBin, ev_mBinO, ev_dr, ev_dz, ev_doz, ev_ode, ev_ac, ev_mB1, ev_mBO, ev_opndsL, ev_rsvs0, ev_rsvs1, ev_rsvd, ev_rsvs, ev_bindS, ev_mTrue, ev_mB, ev_mAnd, ev_mOr, ev_mNot, ev_mIf, ev_mTup, ev_mLst, ev_argsD0, ev_argsD1, ev_vals, ev_mRet, ev_sto, ev_sto2, ev_mPar2, ev_mPar3, ev_gN, ev_gTt, ev_gTl, ev_tgt0, ev_tgt1, ev_gF, ev_fzd, ev_fzo, ev_mOwn, ev_mOut, ev_mIsI, ev_mNeg, ev_opNeg, ev_mSl, ev_mSlL, ev_slcT, ev_slcL, ev_mPart, ev_mRev, ev_mStr1, ev_mChain, ev_mFun, ev_mask0, ev_mask1, ev_mk1o, ev_mk1f, ev_mk1d, ev_mk1u, ev_mCall, ev_lend0, ev_lend1, ev_lend2, ev_noS0, ev_noSd, ev_noSs, ev_back, ev_anyS0, ev_anySd, ev_anySs, ev_backF0, ev_backF1, ev_back1o, ev_back1d, ev_back1u, ev_got0, ev_gotd, ev_gots, ev_mItems, ev_itemsL, ev_itemsT, ev_mSigns, ev_mMeth, ev_chkL, ev_updO, ev_gAppend, ev_mSetIx, ev_gSet, ev_mRng, ev_rg1, ev_rg2, ev_mFor, ev_raise, ev_cI, ev_add, ev_sub, ev_abs, ev_max, ev_min, ev_inti, ev_intb, ev_lenL, ev_lenT, ev_lenS, ev_tupL, ev_tupT, ev_lstL, ev_lstT, ev_ixT, ev_ixL, ev_ixS, ev_at0, ev_at1, ev_at2, ev_at3, ev_at4, ev_at5, ev_at6, ev_at7, ev_ixN0, ev_ixN1, ev_is, ev_isnot, ev_isb, ev_isnotb, ev_addL, opEq_int, opNe_int, mSeq_def, isI, tyN, isN, opLt, opLe, opGt, opGe,
    List.getElem?_cons_zero, List.getElem?_cons_succ, List.getElem?_nil, List.set_cons_zero, List.set_cons_succ, List.length_cons, List.length_nil, List.cons_append, List.nil_append, List.replicate, List.append_nil, decide_true, decide_false, Int.reduceLT, Int.reduceLE, Int.reduceGT, Int.reduceGE, Int.reduceEq, Int.reduceNe, Int.reduceAdd, Int.reduceSub, Int.reduceMul, Int.reduceNeg, Int.reduceToNat, Int.reducePow, Nat.reduceAdd, Nat.reduceLT, Nat.reduceLeDiff, Nat.reduceEqDiff, Nat.reduceBNe, Nat.reduceBEq, gt_iff_lt, ge_iff_le, Bool.and_true, Bool.true_and, Bool.false_and, Bool.and_false, String.reduceBEq, Bool.or_false, Bool.or_true, Bool.true_or, Bool.false_or, and_true, true_and, not_true_eq_false, not_false_eq_true, ne_eq, true_or, or_true, false_or, or_false, and_false, false_and, if_true, if_false, Bool.not_true, Bool.not_false, reduceCtorEq, lit_r]))
  by_cases h2 : b = -1
  · subst h2
    iterate 3 (try (simp only [Int.cast_ofNat_Int, Int.natCast_zero, Int.natCast_one, ev_compL0, ev_compL1, ev_mTurn, ev_mComp, ev_wipe0, ev_wipe1, ev_rest0, ev_rest1, ev_isOwn0, ev_isOwn1, ev_con0, ev_con1, ev_all, ev_any, ev_bools0, ev_bools1, List.all_cons, List.all_nil, List.any_cons, List.any_nil, id_eq, ev_bnd, ev_ret, ev_fail, ev_lift, ev_lift0, ev_opnd, ev_opnds, ev_slD, ev_ra, ev_rv, ev_mBin, ev_mBinO, ev_dr, ev_dz, ev_doz, ev_ode, ev_ac, ev_mB1, ev_mBO, ev_opndsL, ev_rsvs0, ev_rsvs1, ev_rsvd, ev_rsvs, ev_bindS, ev_mTrue, ev_mB, ev_mAnd, ev_mOr, ev_mNot, ev_mIf, ev_mTup, ev_mLst, ev_argsD0, ev_argsD1, ev_vals, ev_mRet, ev_sto, ev_sto2, ev_mPar2, ev_mPar3, ev_gN, ev_gTt, ev_gTl, ev_tgt0, ev_tgt1, ev_gF, ev_fzd, ev_fzo, ev_mOwn, ev_mOut, ev_mIsI, ev_mNeg, ev_opNeg, ev_mSl, ev_mSlL, ev_slcT, ev_slcL, ev_mPart, ev_mRev, ev_mStr1, ev_mChain, ev_mFun, ev_mask0, ev_mask1, ev_mk1o, ev_mk1f, ev_mk1d, ev_mk1u, ev_mCall, ev_lend0, ev_lend1, ev_lend2, ev_noS0, ev_noSd, ev_noSs, ev_back, ev_anyS0, ev_anySd, ev_anySs, ev_backF0, ev_backF1, ev_back1o, ev_back1d, ev_back1u, ev_got0, ev_gotd, ev_gots, ev_mItems, ev_itemsL, ev_itemsT, ev_mSigns, ev_mMeth, ev_chkL, ev_updO, ev_gAppend, ev_mSetIx, ev_gSet, ev_mRng, ev_rg1, ev_rg2, ev_mFor, ev_raise, ev_cI, ev_add, ev_sub, ev_abs, ev_max, ev_min, ev_inti, ev_intb, ev_lenL, ev_lenT, ev_lenS, ev_tupL, ev_tupT, ev_lstL, ev_lstT, ev_ixT, ev_ixL, ev_ixS, ev_at0, ev_at1, ev_at2, ev_at3, ev_at4, ev_at5, ev_at6, ev_at7, ev_ixN0, ev_ixN1, ev_is, ev_isnot, ev_isb, ev_isnotb, ev_addL, opEq_int, opNe_int, mSeq_def, isI, tyN, isN, opLt, opLe, opGt, opGe,
    List.getElem?_cons_zero, List.getElem?_cons_succ, List.getElem?_nil, List.set_cons_zero, List.set_cons_succ, List.length_cons, List.length_nil, List.cons_append, List.nil_append, List.replicate, List.append_nil, decide_true, decide_false, Int.reduceLT, Int.reduceLE, Int.reduceGT, Int.reduceGE, Int.reduceEq, Int.reduceNe, Int.reduceAdd, Int.reduceSub, Int.reduceMul, Int.reduceNeg, Int.reduceToNat, Int.reducePow, Nat.reduceAdd, Nat.reduceLT, Nat.reduceLeDiff, Nat.reduceEqDiff, Nat.reduceBNe, Nat.reduceBEq, gt_iff_lt, ge_iff_le, Bool.and_true, Bool.true_and, Bool.false_and, Bool.and_false, String.reduceBEq, Bool.or_false, Bool.or_true, Bool.true_or, Bool.false_or, and_true, true_and, not_true_eq_false, not_false_eq_true, ne_eq, true_or, or_true, false_or, or_false, and_false, false_and, if_true, if_false, Bool.not_true, Bool.not_false, reduceCtorEq, lit_mr, lit_r]))
  iterate 3 (try (simp only [Int.cast_ofNat_Int, Int.natCast_zero, Int.natCast_one, ev_compL0, ev_compL1, ev_mTurn, ev_mComp, ev_wipe0, ev_wipe1, ev_rest0, ev_rest1, ev_isOwn0, ev_isOwn1, ev_con0, ev_con1, ev_all, ev_any, ev_bools0, ev_bools1, List.all_cons, List.all_nil, List.any_cons, List.any_nil, id_eq, ev_bnd, ev_ret, ev_fail, ev_lift, ev_lift0, ev_opnd, ev_opnds, ev_slD, ev_ra, ev_rv, ev_mBin, ev_mBinO, ev_dr, ev_dz, ev_doz, ev_ode, ev_ac, ev_mB1, ev_mBO, ev_opndsL, ev_rsvs0, ev_rsvs1, ev_rsvd, ev_rsvs, ev_bindS, ev_mTrue, ev_mB, ev_mAnd, ev_mOr, ev_mNot, ev_mIf, ev_mTup, ev_mLst, ev_argsD0, ev_argsD1, ev_vals, ev_mRet, ev_sto, ev_sto2, ev_mPar2, ev_mPar3, ev_gN, ev_gTt, ev_gTl, ev_tgt0, ev_tgt1, ev_gF, ev_fzd, ev_fzo, ev_mOwn, ev_mOut, ev_mIsI, ev_mNeg, ev_opNeg, ev_mSl, ev_mSlL, ev_slcT, ev_slcL, ev_mPart, ev_mRev, ev_mStr1, ev_mChain, ev_mFun, ev_mask0, ev_mask1, ev_mk1o, ev_mk1f, ev_mk1d, ev_mk1u, ev_mCall, ev_lend0, ev_lend1, ev_lend2, ev_noS0, ev_noSd, ev_noSs, ev_back, ev_anyS0, ev_anySd, ev_anySs, ev_backF0, ev_backF1, ev_back1o, ev_back1d, ev_back1u, ev_got0, ev_gotd, ev_gots, ev_mItems, ev_itemsL, ev_itemsT, ev_mSigns, ev_mMeth, ev_chkL, ev_updO, ev_gAppend, ev_mSetIx, ev_gSet, ev_mRng, ev_rg1, ev_rg2, ev_mFor, ev_raise, ev_cI, ev_add, ev_sub, ev_abs, ev_max, ev_min, ev_inti, ev_intb, ev_lenL, ev_lenT, ev_lenS, ev_tupL, ev_tupT, ev_lstL, ev_lstT, ev_ixT, ev_ixL, ev_ixS, ev_at0, ev_at1, ev_at2, ev_at3, ev_at4, ev_at5, ev_at6, ev_at7, ev_ixN0, ev_ixN1, ev_is, ev_isnot, ev_isb, ev_isnotb, ev_addL, opEq_int, opNe_int, mSeq_def, isI, tyN, isN, opLt, opLe, opGt, opGe,
    List.getElem?_cons_zero, List.getElem?_cons_succ, List.getElem?_nil, List.set_cons_zero, List.set_cons_succ, List.length_cons, List.length_nil, List.cons_append, List.nil_append, List.replicate, List.append_nil, decide_true, decide_false, Int.reduceLT, Int.reduceLE, Int.reduceGT, Int.reduceGE, Int.reduceEq, Int.reduceNe, Int.reduceAdd, Int.reduceSub, Int.reduceMul, Int.reduceNeg, Int.reduceToNat, Int.reducePow, Nat.reduceAdd, Nat.reduceLT, Nat.reduceLeDiff, Nat.reduceEqDiff, Nat.reduceBNe, Nat.reduceBEq, gt_iff_lt, ge_iff_le, Bool.and_true, Bool.true_and, Bool.false_and, Bool.and_false, String.reduceBEq, Bool.or_false, Bool.or_true, Bool.true_or, Bool.false_or, and_true, true_and, not_true_eq_false, not_false_eq_true, ne_eq, true_or, or_true, false_or, or_false, and_false, false_and, if_true, if_false, Bool.not_true, Bool.not_false, reduceCtorEq, h1, h2, lit_r, str_ok h, opAdd_S1 (show (intL b).length + [114].length ≤ 1000 by simp; omega)]))
theorem show_ok {x : Int × Int × Int} (ha : x.1.natAbs < 10 ^ 40) (hb : x.2.1.natAbs < 10 ^ 40) (hc : x.2.2.natAbs < 10 ^ 40) : d_show_number [.d (num x)] = some (.ok (.d (S (showL x))) [.un]) := by
  obtain ⟨a, b, c⟩ := x
  have ha : a.natAbs < 10 ^ 40 := ha
  have hb : b.natAbs < 10 ^ 40 := hb
  have hc : c.natAbs < 10 ^ 40 := hc
  have la := intL_len ha
  have lb := rootL_len hb
  have lm := midL_len ha hb
  have lc := endL_len hc
  have lc1 := intL_len hc
  unfold d_show_number b_show_number num showL topL midL endL
  by_cases hc1 : c = 1
  · by_cases hb0 : b = 0
    · iterate 3 (try (simp (disch := (first | assumption | (simp only [List.length_append, List.length_cons, List.length_nil]; omega) | omega)) only [Int.cast_ofNat_Int, Int.natCast_zero, Int.natCast_one, ev_compL0, ev_compL1, ev_mTurn, ev_mComp, ev_wipe0, ev_wipe1, ev_rest0, ev_rest1, ev_isOwn0, ev_isOwn1, ev_con0, ev_con1, ev_all, ev_any, ev_bools0, ev_bools1, List.all_cons, List.all_nil, List.any_cons, List.any_nil, id_eq, ev_bnd, ev_ret, ev_fail, ev_lift, ev_lift0, ev_opnd, ev_opnds, ev_slD, ev_ra, ev_rv, ev_mBin, ev_mBinO, ev_dr, ev_dz, ev_doz, ev_ode, ev_ac, ev_mB1, ev_mBO, ev_opndsL, ev_rsvs0, ev_rsvs1, ev_rsvd, ev_rsvs, ev_bindS, ev_mTrue, ev_mB, ev_mAnd, ev_mOr, ev_mNot, ev_mIf, ev_mTup, ev_mLst, ev_argsD0, ev_argsD1, ev_vals, ev_mRet, ev_sto, ev_sto2, ev_mPar2, ev_mPar3, ev_gN, ev_gTt, ev_gTl, ev_tgt0, ev_tgt1, ev_gF, ev_fzd, ev_fzo, ev_mOwn, ev_mOut, ev_mIsI, ev_mNeg, ev_opNeg, ev_mSl, ev_mSlL, ev_slcT, ev_slcL, ev_mPart, ev_mRev, ev_mStr1, ev_mChain, ev_mFun, ev_mask0, ev_mask1, ev_mk1o, ev_mk1f, ev_mk1d, ev_mk1u, ev_mCall, ev_lend0, ev_lend1, ev_lend2, ev_noS0, ev_noSd, ev_noSs, ev_back, ev_anyS0, ev_anySd, ev_anySs, ev_backF0, ev_backF1, ev_back1o, ev_back1d, ev_back1u, ev_got0, ev_gotd, ev_gots, ev_mItems, ev_itemsL, ev_itemsT, ev_mSigns, ev_mMeth, ev_chkL, ev_updO, ev_gAppend, ev_mSetIx, ev_gSet, ev_mRng, ev_rg1, ev_rg2, ev_mFor, ev_raise, ev_cI, ev_add, ev_sub, ev_abs, ev_max, ev_min, ev_inti, ev_intb, ev_lenL, ev_lenT, ev_lenS, ev_tupL, ev_tupT, ev_lstL, ev_lstT, ev_ixT, ev_ixL, ev_ixS, ev_at0, ev_at1, ev_at2, ev_at3, ev_at4, ev_at5, ev_at6, ev_at7, ev_ixN0, ev_ixN1, ev_is, ev_isnot, ev_isb, ev_isnotb, ev_addL, opEq_int, opNe_int, mSeq_def, isI, tyN, isN, opLt, opLe, opGt, opGe,
    List.getElem?_cons_zero, List.getElem?_cons_succ, List.getElem?_nil, List.set_cons_zero, List.set_cons_succ, List.length_cons, List.length_nil, List.cons_append, List.nil_append, List.replicate, List.append_nil, decide_true, decide_false, Int.reduceLT, Int.reduceLE, Int.reduceGT, Int.reduceGE, Int.reduceEq, Int.reduceNe, Int.reduceAdd, Int.reduceSub, Int.reduceMul, Int.reduceNeg, Int.reduceToNat, Int.reducePow, Nat.reduceAdd, Nat.reduceLT, Nat.reduceLeDiff, Nat.reduceEqDiff, Nat.reduceBNe, Nat.reduceBEq, gt_iff_lt, ge_iff_le, Bool.and_true, Bool.true_and, Bool.false_and, Bool.and_false, String.reduceBEq, Bool.or_false, Bool.or_true, Bool.true_or, Bool.false_or, and_true, true_and, not_true_eq_false, not_false_eq_true, ne_eq, true_or, or_true, false_or, or_false, and_false, false_and, if_true, if_false, Bool.not_true, Bool.not_false, reduceCtorEq, hc1, hb0, lit_0, str_ok, opAdd_S1]))
    by_cases ha0 : a = 0
    · iterate 3 (try (simp (disch := (first | assumption | (simp only [List.length_append, List.length_cons, List.length_nil]; omega) | omega)) only [Int.cast_ofNat_Int, Int.natCast_zero, Int.natCast_one, ev_compL0, ev_compL1, ev_mTurn, ev_mComp, ev_wipe0, ev_wipe1, ev_rest0, ev_rest1, ev_isOwn0, ev_isOwn1, ev_con0, ev_con1, ev_all, ev_any, ev_bools0, ev_bools1, List.all_cons, List.all_nil, List.any_cons, List.any_nil, id_eq, ev_bnd, ev_ret, ev_fail, ev_lift, ev_lift0, ev_opnd, ev_opnds, ev_slD, ev_ra, ev_rv, ev_mBin, ev_mBinO, ev_dr, ev_dz, ev_doz, ev_ode, ev_ac, ev_mB1, ev_mBO, ev_opndsL, ev_rsvs0, ev_rsvs1, ev_rsvd, ev_rsvs, ev_bindS, ev_mTrue, ev_mB, ev_mAnd, ev_mOr, ev_mNot, ev_mIf, ev_mTup, ev_mLst, ev_argsD0, ev_argsD1, ev_vals, ev_mRet, ev_sto, ev_sto2, ev_mPar2, ev_mPar3, ev_gN, ev_gTt, ev_gTl, ev_tgt0, ev_tgt1, ev_gF, ev_fzd, ev_fzo, ev_mOwn, ev_mOut, ev_mIsI, ev_mNeg, ev_opNeg, ev_mSl, ev_mSlL, ev_slcT, ev_slcL, ev_mPart, ev_mRev, ev_mStr1, ev_mChain, ev_mFun, ev_mask0, ev_mask1, ev_mk1o, ev_mk1f, ev_mk1d, ev_mk1u, ev_mCall, ev_lend0, ev_lend1, ev_lend2, ev_noS0, ev_noSd, ev_noSs, ev_back, ev_anyS0, ev_anySd, ev_anySs, ev_backF0, ev_backF1, ev_back1o, ev_back1d, ev_back1u, ev_got0, ev_gotd, ev_gots, ev_mItems, ev_itemsL, ev_itemsT, ev_mSigns, ev_mMeth, ev_chkL, ev_updO, ev_gAppend, ev_mSetIx, ev_gSet, ev_mRng, ev_rg1, ev_rg2, ev_mFor, ev_raise, ev_cI, ev_add, ev_sub, ev_abs, ev_max, ev_min, ev_inti, ev_intb, ev_lenL, ev_lenT, ev_lenS, ev_tupL, ev_tupT, ev_lstL, ev_lstT, ev_ixT, ev_ixL, ev_ixS, ev_at0, ev_at1, ev_at2, ev_at3, ev_at4, ev_at5, ev_at6, ev_at7, ev_ixN0, ev_ixN1, ev_is, ev_isnot, ev_isb, ev_isnotb, ev_addL, opEq_int, opNe_int, mSeq_def, isI, tyN, isN, opLt, opLe, opGt, opGe,
    List.getElem?_cons_zero, List.getElem?_cons_succ, List.getElem?_nil, List.set_cons_zero, List.set_cons_succ, List.length_cons, List.length_nil, List.cons_append, List.nil_append, List.replicate, List.append_nil, decide_true, decide_false, Int.reduceLT, Int.reduceLE, Int.reduceGT, Int.reduceGE, Int.reduceEq, Int.reduceNe, Int.reduceAdd, Int.reduceSub, Int.reduceMul, Int.reduceNeg, Int.reduceToNat, Int.reducePow, Nat.reduceAdd, Nat.reduceLT, Nat.reduceLeDiff, Nat.reduceEqDiff, Nat.reduceBNe, Nat.reduceBEq, gt_iff_lt, ge_iff_le, Bool.and_true, Bool.true_and, Bool.false_and, Bool.and_false, String.reduceBEq, Bool.or_false, Bool.or_true, Bool.true_or, Bool.false_or, and_true, true_and, not_true_eq_false, not_false_eq_true, ne_eq, true_or, or_true, false_or, or_false, and_false, false_and, if_true, if_false, Bool.not_true, Bool.not_false, reduceCtorEq, hc1, hb0, ha0, lit_0, root_ok, opAdd_S1]))
    by_cases h0 : 0 < b
    · iterate 3 (try (simp (disch := (first | assumption | (simp only [List.length_append, List.length_cons, List.length_nil]; omega) | omega)) only [Int.cast_ofNat_Int, Int.natCast_zero, Int.natCast_one, ev_compL0, ev_compL1, ev_mTurn, ev_mComp, ev_wipe0, ev_wipe1, ev_rest0, ev_rest1, ev_isOwn0, ev_isOwn1, ev_con0, ev_con1, ev_all, ev_any, ev_bools0, ev_bools1, List.all_cons, List.all_nil, List.any_cons, List.any_nil, id_eq, ev_bnd, ev_ret, ev_fail, ev_lift, ev_lift0, ev_opnd, ev_opnds, ev_slD, ev_ra, ev_rv, ev_mBin, ev_mBinO, ev_dr, ev_dz, ev_doz, ev_ode, ev_ac, ev_mB1, ev_mBO, ev_opndsL, ev_rsvs0, ev_rsvs1, ev_rsvd, ev_rsvs, ev_bindS, ev_mTrue, ev_mB, ev_mAnd, ev_mOr, ev_mNot, ev_mIf, ev_mTup, ev_mLst, ev_argsD0, ev_argsD1, ev_vals, ev_mRet, ev_sto, ev_sto2, ev_mPar2, ev_mPar3, ev_gN, ev_gTt, ev_gTl, ev_tgt0, ev_tgt1, ev_gF, ev_fzd, ev_fzo, ev_mOwn, ev_mOut, ev_mIsI, ev_mNeg, ev_opNeg, ev_mSl, ev_mSlL, ev_slcT, ev_slcL, ev_mPart, ev_mRev, ev_mStr1, ev_mChain, ev_mFun, ev_mask0, ev_mask1, ev_mk1o, ev_mk1f, ev_mk1d, ev_mk1u, ev_mCall, ev_lend0, ev_lend1, ev_lend2, ev_noS0, ev_noSd, ev_noSs, ev_back, ev_anyS0, ev_anySd, ev_anySs, ev_backF0, ev_backF1, ev_back1o, ev_back1d, ev_back1u, ev_got0, ev_gotd, ev_gots, ev_mItems, ev_itemsL, ev_itemsT, ev_mSigns, ev_mMeth, ev_chkL, ev_updO, ev_gAppend, ev_mSetIx, ev_gSet, ev_mRng, ev_rg1, ev_rg2, ev_mFor, ev_raise, ev_cI, ev_add, ev_sub, ev_abs, ev_max, ev_min, ev_inti, ev_intb, ev_lenL, ev_lenT, ev_lenS, ev_tupL, ev_tupT, ev_lstL, ev_lstT, ev_ixT, ev_ixL, ev_ixS, ev_at0, ev_at1, ev_at2, ev_at3, ev_at4, ev_at5, ev_at6, ev_at7, ev_ixN0, ev_ixN1, ev_is, ev_isnot, ev_isb, ev_isnotb, ev_addL, opEq_int, opNe_int, mSeq_def, isI, tyN, isN, opLt, opLe, opGt, opGe,
    List.getElem?_cons_zero, List.getElem?_cons_succ, List.getElem?_nil, List.set_cons_zero, List.set_cons_succ, List.length_cons, List.length_nil, List.cons_append, List.nil_append, List.replicate, List.append_nil, decide_true, decide_false, Int.reduceLT, Int.reduceLE, Int.reduceGT, Int.reduceGE, Int.reduceEq, Int.reduceNe, Int.reduceAdd, Int.reduceSub, Int.reduceMul, Int.reduceNeg, Int.reduceToNat, Int.reducePow, Nat.reduceAdd, Nat.reduceLT, Nat.reduceLeDiff, Nat.reduceEqDiff, Nat.reduceBNe, Nat.reduceBEq, gt_iff_lt, ge_iff_le, Bool.and_true, Bool.true_and, Bool.false_and, Bool.and_false, String.reduceBEq, Bool.or_false, Bool.or_true, Bool.true_or, Bool.false_or, and_true, true_and, not_true_eq_false, not_false_eq_true, ne_eq, true_or, or_true, false_or, or_false, and_false, false_and, if_true, if_false, Bool.not_true, Bool.not_false, reduceCtorEq, hc1, hb0, ha0, h0, lit_0, lit_p, str_ok, root_ok, opAdd_S1, List.append_assoc]))
    · iterate 3 (try (simp (disch := (first | assumption | (simp only [List.length_append, List.length_cons, List.length_nil]; omega) | omega)) only [Int.cast_ofNat_Int, Int.natCast_zero, Int.natCast_one, ev_compL0, ev_compL1, ev_mTurn, ev_mComp, ev_wipe0, ev_wipe1, ev_rest0, ev_rest1, ev_isOwn0, ev_isOwn1, ev_con0, ev_con1, ev_all, ev_any, ev_bools0, ev_bools1, List.all_cons, List.all_nil, List.any_cons, List.any_nil, id_eq, ev_bnd, ev_ret, ev_fail, ev_lift, ev_lift0, ev_opnd, ev_opnds, ev_slD, ev_ra, ev_rv, ev_mBin, ev_mBinO, ev_dr, ev_dz, ev_doz, ev_ode, ev_ac, ev_mB1, ev_mBO, ev_opndsL, ev_rsvs0, ev_rsvs1, ev_rsvd, ev_rsvs, ev_bindS, ev_mTrue, ev_mB, ev_mAnd, ev_mOr, ev_mNot, ev_mIf, ev_mTup, ev_mLst, ev_argsD0, ev_argsD1, ev_vals, ev_mRet, ev_sto, ev_sto2, ev_mPar2, ev_mPar3, ev_gN, ev_gTt, ev_gTl, ev_tgt0, ev_tgt1, ev_gF, ev_fzd, ev_fzo, ev_mOwn, ev_mOut, ev_mIsI, ev_mNeg, ev_opNeg, ev_mSl, ev_mSlL, ev_slcT, ev_slcL, ev_mPart, ev_mRev, ev_mStr1, ev_mChain, ev_mFun, ev_mask0, ev_mask1, ev_mk1o, ev_mk1f, ev_mk1d, ev_mk1u, ev_mCall, ev_lend0, ev_lend1, ev_lend2, ev_noS0, ev_noSd, ev_noSs, ev_back, ev_anyS0, ev_anySd, ev_anySs, ev_backF0, ev_backF1, ev_back1o, ev_back1d, ev_back1u, ev_got0, ev_gotd, ev_gots, ev_mItems, ev_itemsL, ev_itemsT, ev_mSigns, ev_mMeth, ev_chkL, ev_updO, ev_gAppend, ev_mSetIx, ev_gSet, ev_mRng, ev_rg1, ev_rg2, ev_mFor, ev_raise, ev_cI, ev_add, ev_sub, ev_abs, ev_max, ev_min, ev_inti, ev_intb, ev_lenL, ev_lenT, ev_lenS, ev_tupL, ev_tupT, ev_lstL, ev_lstT, ev_ixT, ev_ixL, ev_ixS, ev_at0, ev_at1, ev_at2, ev_at3, ev_at4, ev_at5, ev_at6, ev_at7, ev_ixN0, ev_ixN1, ev_is, ev_isnot, ev_isb, ev_isnotb, ev_addL, opEq_int, opNe_int, mSeq_def, isI, tyN, isN, opLt, opLe, opGt, opGe,
    List.getElem?_cons_zero, List.getElem?_cons_succ, List.getElem?_nil, List.set_cons_zero, List.set_cons_succ, List.length_cons, List.length_nil, List.cons_append, List.nil_append, List.replicate, List.append_nil, decide_true, decide_false, Int.reduceLT, Int.reduceLE, Int.reduceGT, Int.reduceGE, Int.reduceEq, Int.reduceNe, Int.reduceAdd, Int.reduceSub, Int.reduceMul, Int.reduceNeg, Int.reduceToNat, Int.reducePow, Nat.reduceAdd, Nat.reduceLT, Nat.reduceLeDiff, Nat.reduceEqDiff, Nat.reduceBNe, Nat.reduceBEq, gt_iff_lt, ge_iff_le, Bool.and_true, Bool.true_and, Bool.false_and, Bool.and_false, String.reduceBEq, Bool.or_false, Bool.or_true, Bool.true_or, Bool.false_or, and_true, true_and, not_true_eq_false, not_false_eq_true, ne_eq, true_or, or_true, false_or, or_false, and_false, false_and, if_true, if_false, Bool.not_true, Bool.not_false, reduceCtorEq, hc1, hb0, ha0, h0, lit_0, lit_p, str_ok, root_ok, opAdd_S1, List.append_assoc]))
  · by_cases hb0 : b = 0
    · iterate 3 (try (simp (disch := (first | assumption | (simp only [List.length_append, List.length_cons, List.length_nil]; omega) | omega)) only [Int.cast_ofNat_Int, Int.natCast_zero, Int.natCast_one, ev_compL0, ev_compL1, ev_mTurn, ev_mComp, ev_wipe0, ev_wipe1, ev_rest0, ev_rest1, ev_isOwn0, ev_isOwn1, ev_con0, ev_con1, ev_all, ev_any, ev_bools0, ev_bools1, List.all_cons, List.all_nil, List.any_cons, List.any_nil, id_eq, ev_bnd, ev_ret, ev_fail, ev_lift, ev_lift0, ev_opnd, ev_opnds, ev_slD, ev_ra, ev_rv, ev_mBin, ev_mBinO, ev_dr, ev_dz, ev_doz, ev_ode, ev_ac, ev_mB1, ev_mBO, ev_opndsL, ev_rsvs0, ev_rsvs1, ev_rsvd, ev_rsvs, ev_bindS, ev_mTrue, ev_mB, ev_mAnd, ev_mOr, ev_mNot, ev_mIf, ev_mTup, ev_mLst, ev_argsD0, ev_argsD1, ev_vals, ev_mRet, ev_sto, ev_sto2, ev_mPar2, ev_mPar3, ev_gN, ev_gTt, ev_gTl, ev_tgt0, ev_tgt1, ev_gF, ev_fzd, ev_fzo, ev_mOwn, ev_mOut, ev_mIsI, ev_mNeg, ev_opNeg, ev_mSl, ev_mSlL, ev_slcT, ev_slcL, ev_mPart, ev_mRev, ev_mStr1, ev_mChain, ev_mFun, ev_mask0, ev_mask1, ev_mk1o, ev_mk1f, ev_mk1d, ev_mk1u, ev_mCall, ev_lend0, ev_lend1, ev_lend2, ev_noS0, ev_noSd, ev_noSs, ev_back, ev_anyS0, ev_anySd, ev_anySs, ev_backF0, ev_backF1, ev_back1o, ev_back1d, ev_back1u, ev_got0, ev_gotd, ev_gots, ev_mItems, ev_itemsL, ev_itemsT, ev_mSigns, ev_mMeth, ev_chkL, ev_updO, ev_gAppend, ev_mSetIx, ev_gSet, ev_mRng, ev_rg1, ev_rg2, ev_mFor, ev_raise, ev_cI, ev_add, ev_sub, ev_abs, ev_max, ev_min, ev_inti, ev_intb, ev_lenL, ev_lenT, ev_lenS, ev_tupL, ev_tupT, ev_lstL, ev_lstT, ev_ixT, ev_ixL, ev_ixS, ev_at0, ev_at1, ev_at2, ev_at3, ev_at4, ev_at5, ev_at6, ev_at7, ev_ixN0, ev_ixN1, ev_is, ev_isnot, ev_isb, ev_isnotb, ev_addL, opEq_int, opNe_int, mSeq_def, isI, tyN, isN, opLt, opLe, opGt, opGe,
    List.getElem?_cons_zero, List.getElem?_cons_succ, List.getElem?_nil, List.set_cons_zero, List.set_cons_succ, List.length_cons, List.length_nil, List.cons_append, List.nil_append, List.replicate, List.append_nil, decide_true, decide_false, Int.reduceLT, Int.reduceLE, Int.reduceGT, Int.reduceGE, Int.reduceEq, Int.reduceNe, Int.reduceAdd, Int.reduceSub, Int.reduceMul, Int.reduceNeg, Int.reduceToNat, Int.reducePow, Nat.reduceAdd, Nat.reduceLT, Nat.reduceLeDiff, Nat.reduceEqDiff, Nat.reduceBNe, Nat.reduceBEq, gt_iff_lt, ge_iff_le, Bool.and_true, Bool.true_and, Bool.false_and, Bool.and_false, String.reduceBEq, Bool.or_false, Bool.or_true, Bool.true_or, Bool.false_or, and_true, true_and, not_true_eq_false, not_false_eq_true, ne_eq, true_or, or_true, false_or, or_false, and_false, false_and, if_true, if_false, Bool.not_true, Bool.not_false, reduceCtorEq, hc1, hb0, lit_s, str_ok, opAdd_S1, List.append_assoc]))
    by_cases ha0 : a = 0
    · iterate 3 (try (simp (disch := (first | assumption | (simp only [List.length_append, List.length_cons, List.length_nil]; omega) | omega)) only [Int.cast_ofNat_Int, Int.natCast_zero, Int.natCast_one, ev_compL0, ev_compL1, ev_mTurn, ev_mComp, ev_wipe0, ev_wipe1, ev_rest0, ev_rest1, ev_isOwn0, ev_isOwn1, ev_con0, ev_con1, ev_all, ev_any, ev_bools0, ev_bools1, List.all_cons, List.all_nil, List.any_cons, List.any_nil, id_eq, ev_bnd, ev_ret, ev_fail, ev_lift, ev_lift0, ev_opnd, ev_opnds, ev_slD, ev_ra, ev_rv, ev_mBin, ev_mBinO, ev_dr, ev_dz, ev_doz, ev_ode, ev_ac, ev_mB1, ev_mBO, ev_opndsL, ev_rsvs0, ev_rsvs1, ev_rsvd, ev_rsvs, ev_bindS, ev_mTrue, ev_mB, ev_mAnd, ev_mOr, ev_mNot, ev_mIf, ev_mTup, ev_mLst, ev_argsD0, ev_argsD1, ev_vals, ev_mRet, ev_sto, ev_sto2, ev_mPar2, ev_mPar3, ev_gN, ev_gTt, ev_gTl, ev_tgt0, ev_tgt1, ev_gF, ev_fzd, ev_fzo, ev_mOwn, ev_mOut, ev_mIsI, ev_mNeg, ev_opNeg, ev_mSl, ev_mSlL, ev_slcT, ev_slcL, ev_mPart, ev_mRev, ev_mStr1, ev_mChain, ev_mFun, ev_mask0, ev_mask1, ev_mk1o, ev_mk1f, ev_mk1d, ev_mk1u, ev_mCall, ev_lend0, ev_lend1, ev_lend2, ev_noS0, ev_noSd, ev_noSs, ev_back, ev_anyS0, ev_anySd, ev_anySs, ev_backF0, ev_backF1, ev_back1o, ev_back1d, ev_back1u, ev_got0, ev_gotd, ev_gots, ev_mItems, ev_itemsL, ev_itemsT, ev_mSigns, ev_mMeth, ev_chkL, ev_updO, ev_gAppend, ev_mSetIx, ev_gSet, ev_mRng, ev_rg1, ev_rg2, ev_mFor, ev_raise, ev_cI, ev_add, ev_sub, ev_abs, ev_max, ev_min, ev_inti, ev_intb, ev_lenL, ev_lenT, ev_lenS, ev_tupL, ev_tupT, ev_lstL, ev_lstT, ev_ixT, ev_ixL, ev_ixS, ev_at0, ev_at1, ev_at2, ev_at3, ev_at4, ev_at5, ev_at6, ev_at7, ev_ixN0, ev_ixN1, ev_is, ev_isnot, ev_isb, ev_isnotb, ev_addL, opEq_int, opNe_int, mSeq_def, isI, tyN, isN, opLt, opLe, opGt, opGe,
    List.getElem?_cons_zero, List.getElem?_cons_succ, List.getElem?_nil, List.set_cons_zero, List.set_cons_succ, List.length_cons, List.length_nil, List.cons_append, List.nil_append, List.replicate, List.append_nil, decide_true, decide_false, Int.reduceLT, Int.reduceLE, Int.reduceGT, Int.reduceGE, Int.reduceEq, Int.reduceNe, Int.reduceAdd, Int.reduceSub, Int.reduceMul, Int.reduceNeg, Int.reduceToNat, Int.reducePow, Nat.reduceAdd, Nat.reduceLT, Nat.reduceLeDiff, Nat.reduceEqDiff, Nat.reduceBNe, Nat.reduceBEq, gt_iff_lt, ge_iff_le, Bool.and_true, Bool.true_and, Bool.false_and, Bool.and_false, String.reduceBEq, Bool.or_false, Bool.or_true, Bool.true_or, Bool.false_or, and_true, true_and, not_true_eq_false, not_false_eq_true, ne_eq, true_or, or_true, false_or, or_false, and_false, false_and, if_true, if_false, Bool.not_true, Bool.not_false, reduceCtorEq, hc1, hb0, ha0, lit_s, root_ok, str_ok, opAdd_S1, List.append_assoc]))
    by_cases h0 : 0 < b
    · iterate 3 (try (simp (disch := (first | assumption | (simp only [List.length_append, List.length_cons, List.length_nil]; omega) | omega)) only [Int.cast_ofNat_Int, Int.natCast_zero, Int.natCast_one, ev_compL0, ev_compL1, ev_mTurn, ev_mComp, ev_wipe0, ev_wipe1, ev_rest0, ev_rest1, ev_isOwn0, ev_isOwn1, ev_con0, ev_con1, ev_all, ev_any, ev_bools0, ev_bools1, List.all_cons, List.all_nil, List.any_cons, List.any_nil, id_eq, ev_bnd, ev_ret, ev_fail, ev_lift, ev_lift0, ev_opnd, ev_opnds, ev_slD, ev_ra, ev_rv, ev_mBin, ev_mBinO, ev_dr, ev_dz, ev_doz, ev_ode, ev_ac, ev_mB1, ev_mBO, ev_opndsL, ev_rsvs0, ev_rsvs1, ev_rsvd, ev_rsvs, ev_bindS, ev_mTrue, ev_mB, ev_mAnd, ev_mOr, ev_mNot, ev_mIf, ev_mTup, ev_mLst, ev_argsD0, ev_argsD1, ev_vals, ev_mRet, ev_sto, ev_sto2, ev_mPar2, ev_mPar3, ev_gN, ev_gTt, ev_gTl, ev_tgt0, ev_tgt1, ev_gF, ev_fzd, ev_fzo, ev_mOwn, ev_mOut, ev_mIsI, ev_mNeg, ev_opNeg, ev_mSl, ev_mSlL, ev_slcT, ev_slcL, ev_mPart, ev_mRev, ev_mStr1, ev_mChain, ev_mFun, ev_mask0, ev_mask1, ev_mk1o, ev_mk1f, ev_mk1d, ev_mk1u, ev_mCall, ev_lend0, ev_lend1, ev_lend2, ev_noS0, ev_noSd, ev_noSs, ev_back, ev_anyS0, ev_anySd, ev_anySs, ev_backF0, ev_backF1, ev_back1o, ev_back1d, ev_back1u, ev_got0, ev_gotd, ev_gots, ev_mItems, ev_itemsL, ev_itemsT, ev_mSigns, ev_mMeth, ev_chkL, ev_updO, ev_gAppend, ev_mSetIx, ev_gSet, ev_mRng, ev_rg1, ev_rg2, ev_mFor, ev_raise, ev_cI, ev_add, ev_sub, ev_abs, ev_max, ev_min, ev_inti, ev_intb, ev_lenL, ev_lenT, ev_lenS, ev_tupL, ev_tupT, ev_lstL, ev_lstT, ev_ixT, ev_ixL, ev_ixS, ev_at0, ev_at1, ev_at2, ev_at3, ev_at4, ev_at5, ev_at6, ev_at7, ev_ixN0, ev_ixN1, ev_is, ev_isnot, ev_isb, ev_isnotb, ev_addL, opEq_int, opNe_int, mSeq_def, isI, tyN, isN, opLt, opLe, opGt, opGe,
    List.getElem?_cons_zero, List.getElem?_cons_succ, List.getElem?_nil, List.set_cons_zero, List.set_cons_succ, List.length_cons, List.length_nil, List.cons_append, List.nil_append, List.replicate, List.append_nil, decide_true, decide_false, Int.reduceLT, Int.reduceLE, Int.reduceGT, Int.reduceGE, Int.reduceEq, Int.reduceNe, Int.reduceAdd, Int.reduceSub, Int.reduceMul, Int.reduceNeg, Int.reduceToNat, Int.reducePow, Nat.reduceAdd, Nat.reduceLT, Nat.reduceLeDiff, Nat.reduceEqDiff, Nat.reduceBNe, Nat.reduceBEq, gt_iff_lt, ge_iff_le, Bool.and_true, Bool.true_and, Bool.false_and, Bool.and_false, String.reduceBEq, Bool.or_false, Bool.or_true, Bool.true_or, Bool.false_or, and_true, true_and, not_true_eq_false, not_false_eq_true, ne_eq, true_or, or_true, false_or, or_false, and_false, false_and, if_true, if_false, Bool.not_true, Bool.not_false, reduceCtorEq, hc1, hb0, ha0, h0, lit_0, lit_s, lit_o, lit_c, lit_p, str_ok, root_ok, opAdd_S1, List.append_assoc]))
    · iterate 3 (try (simp (disch := (first | assumption | (simp only [List.length_append, List.length_cons, List.length_nil]; omega) | omega)) only [Int.cast_ofNat_Int, Int.natCast_zero, Int.natCast_one, ev_compL0, ev_compL1, ev_mTurn, ev_mComp, ev_wipe0, ev_wipe1, ev_rest0, ev_rest1, ev_isOwn0, ev_isOwn1, ev_con0, ev_con1, ev_all, ev_any, ev_bools0, ev_bools1, List.all_cons, List.all_nil, List.any_cons, List.any_nil, id_eq, ev_bnd, ev_ret, ev_fail, ev_lift, ev_lift0, ev_opnd, ev_opnds, ev_slD, ev_ra, ev_rv, ev_mBin, ev_mBinO, ev_dr, ev_dz, ev_doz, ev_ode, ev_ac, ev_mB1, ev_mBO, ev_opndsL, ev_rsvs0, ev_rsvs1, ev_rsvd, ev_rsvs, ev_bindS, ev_mTrue, ev_mB, ev_mAnd, ev_mOr, ev_mNot, ev_mIf, ev_mTup, ev_mLst, ev_argsD0, ev_argsD1, ev_vals, ev_mRet, ev_sto, ev_sto2, ev_mPar2, ev_mPar3, ev_gN, ev_gTt, ev_gTl, ev_tgt0, ev_tgt1, ev_gF, ev_fzd, ev_fzo, ev_mOwn, ev_mOut, ev_mIsI, ev_mNeg, ev_opNeg, ev_mSl, ev_mSlL, ev_slcT, ev_slcL, ev_mPart, ev_mRev, ev_mStr1, ev_mChain, ev_mFun, ev_mask0, ev_mask1, ev_mk1o, ev_mk1f, ev_mk1d, ev_mk1u, ev_mCall, ev_lend0, ev_lend1, ev_lend2, ev_noS0, ev_noSd, ev_noSs, ev_back, ev_anyS0, ev_anySd, ev_anySs, ev_backF0, ev_backF1, ev_back1o, ev_back1d, ev_back1u, ev_got0, ev_gotd, ev_gots, ev_mItems, ev_itemsL, ev_itemsT, ev_mSigns, ev_mMeth, ev_chkL, ev_updO, ev_gAppend, ev_mSetIx, ev_gSet, ev_mRng, ev_rg1, ev_rg2, ev_mFor, ev_raise, ev_cI, ev_add, ev_sub, ev_abs, ev_max, ev_min, ev_inti, ev_intb, ev_lenL, ev_lenT, ev_lenS, ev_tupL, ev_tupT, ev_lstL, ev_lstT, ev_ixT, ev_ixL, ev_ixS, ev_at0, ev_at1, ev_at2, ev_at3, ev_at4, ev_at5, ev_at6, ev_at7, ev_ixN0, ev_ixN1, ev_is, ev_isnot, ev_isb, ev_isnotb, ev_addL, opEq_int, opNe_int, mSeq_def, isI, tyN, isN, opLt, opLe, opGt, opGe,
    List.getElem?_cons_zero, List.getElem?_cons_succ, List.getElem?_nil, List.set_cons_zero, List.set_cons_succ, List.length_cons, List.length_nil, List.cons_append, List.nil_append, List.replicate, List.append_nil, decide_true, decide_false, Int.reduceLT, Int.reduceLE, Int.reduceGT, Int.reduceGE, Int.reduceEq, Int.reduceNe, Int.reduceAdd, Int.reduceSub, Int.reduceMul, Int.reduceNeg, Int.reduceToNat, Int.reducePow, Nat.reduceAdd, Nat.reduceLT, Nat.reduceLeDiff, Nat.reduceEqDiff, Nat.reduceBNe, Nat.reduceBEq, gt_iff_lt, ge_iff_le, Bool.and_true, Bool.true_and, Bool.false_and, Bool.and_false, String.reduceBEq, Bool.or_false, Bool.or_true, Bool.true_or, Bool.false_or, and_true, true_and, not_true_eq_false, not_false_eq_true, ne_eq, true_or, or_true, false_or, or_false, and_false, false_and, if_true, if_false, Bool.not_true, Bool.not_false, reduceCtorEq, hc1, hb0, ha0, h0, lit_0, lit_s, lit_o, lit_c, lit_p, str_ok, root_ok, opAdd_S1, List.append_assoc]))
theorem ltext_ok {x : Int × Int × Int} (ha : x.1.natAbs < 10 ^ 40) (hb : x.2.1.natAbs < 10 ^ 40) (hc : x.2.2.natAbs < 10 ^ 40) : d__law_text [.d (num x)] = some (.ok (.d (S (showL x))) [.un]) := by
  obtain ⟨a, b, c⟩ := x
  have ha : a.natAbs < 10 ^ 40 := ha
  have hb : b.natAbs < 10 ^ 40 := hb
  have hc : c.natAbs < 10 ^ 40 := hc
  have la := intL_len ha
  have lb := rootL_len hb
  have lm := midL_len ha hb
  have lc := endL_len hc
  have lc1 := intL_len hc
  unfold d__law_text b__law_text num showL topL midL endL
  by_cases hc1 : c = 1
  · by_cases hb0 : b = 0
    · iterate 3 (try (simp (disch := (first | assumption | (simp only [List.length_append, List.length_cons, List.length_nil]; omega) | omega)) only [Int.cast_ofNat_Int, Int.natCast_zero, Int.natCast_one, ev_compL0, ev_compL1, ev_mTurn, ev_mComp, ev_wipe0, ev_wipe1, ev_rest0, ev_rest1, ev_isOwn0, ev_isOwn1, ev_con0, ev_con1, ev_all, ev_any, ev_bools0, ev_bools1, List.all_cons, List.all_nil, List.any_cons, List.any_nil, id_eq, ev_bnd, ev_ret, ev_fail, ev_lift, ev_lift0, ev_opnd, ev_opnds, ev_slD, ev_ra, ev_rv, ev_mBin, ev_mBinO, ev_dr, ev_dz, ev_doz, ev_ode, ev_ac, ev_mB1, ev_mBO, ev_opndsL, ev_rsvs0, ev_rsvs1, ev_rsvd, ev_rsvs, ev_bindS, ev_mTrue, ev_mB, ev_mAnd, ev_mOr, ev_mNot, ev_mIf, ev_mTup, ev_mLst, ev_argsD0, ev_argsD1, ev_vals, ev_mRet, ev_sto, ev_sto2, ev_mPar2, ev_mPar3, ev_gN, ev_gTt, ev_gTl, ev_tgt0, ev_tgt1, ev_gF, ev_fzd, ev_fzo, ev_mOwn, ev_mOut, ev_mIsI, ev_mNeg, ev_opNeg, ev_mSl, ev_mSlL, ev_slcT, ev_slcL, ev_mPart, ev_mRev, ev_mStr1, ev_mChain, ev_mFun, ev_mask0, ev_mask1, ev_mk1o, ev_mk1f, ev_mk1d, ev_mk1u, ev_mCall, ev_lend0, ev_lend1, ev_lend2, ev_noS0, ev_noSd, ev_noSs, ev_back, ev_anyS0, ev_anySd, ev_anySs, ev_backF0, ev_backF1, ev_back1o, ev_back1d, ev_back1u, ev_got0, ev_gotd, ev_gots, ev_mItems, ev_itemsL, ev_itemsT, ev_mSigns, ev_mMeth, ev_chkL, ev_updO, ev_gAppend, ev_mSetIx, ev_gSet, ev_mRng, ev_rg1, ev_rg2, ev_mFor, ev_raise, ev_cI, ev_add, ev_sub, ev_abs, ev_max, ev_min, ev_inti, ev_intb, ev_lenL, ev_lenT, ev_lenS, ev_tupL, ev_tupT, ev_lstL, ev_lstT, ev_ixT, ev_ixL, ev_ixS, ev_at0, ev_at1, ev_at2, ev_at3, ev_at4, ev_at5, ev_at6, ev_at7, ev_ixN0, ev_ixN1, ev_is, ev_isnot, ev_isb, ev_isnotb, ev_addL, opEq_int, opNe_int, mSeq_def, isI, tyN, isN, opLt, opLe, opGt, opGe,
    List.getElem?_cons_zero, List.getElem?_cons_succ, List.getElem?_nil, List.set_cons_zero, List.set_cons_succ, List.length_cons, List.length_nil, List.cons_append, List.nil_append, List.replicate, List.append_nil, decide_true, decide_false, Int.reduceLT, Int.reduceLE, Int.reduceGT, Int.reduceGE, Int.reduceEq, Int.reduceNe, Int.reduceAdd, Int.reduceSub, Int.reduceMul, Int.reduceNeg, Int.reduceToNat, Int.reducePow, Nat.reduceAdd, Nat.reduceLT, Nat.reduceLeDiff, Nat.reduceEqDiff, Nat.reduceBNe, Nat.reduceBEq, gt_iff_lt, ge_iff_le, Bool.and_true, Bool.true_and, Bool.false_and, Bool.and_false, String.reduceBEq, Bool.or_false, Bool.or_true, Bool.true_or, Bool.false_or, and_true, true_and, not_true_eq_false, not_false_eq_true, ne_eq, true_or, or_true, false_or, or_false, and_false, false_and, if_true, if_false, Bool.not_true, Bool.not_false, reduceCtorEq, hc1, hb0, lit_0, str_ok, opAdd_S1]))
    by_cases ha0 : a = 0
    · iterate 3 (try (simp (disch := (first | assumption | (simp only [List.length_append, List.length_cons, List.length_nil]; omega) | omega)) only [Int.cast_ofNat_Int, Int.natCast_zero, Int.natCast_one, ev_compL0, ev_compL1, ev_mTurn, ev_mComp, ev_wipe0, ev_wipe1, ev_rest0, ev_rest1, ev_isOwn0, ev_isOwn1, ev_con0, ev_con1, ev_all, ev_any, ev_bools0, ev_bools1, List.all_cons, List.all_nil, List.any_cons, List.any_nil, id_eq, ev_bnd, ev_ret, ev_fail, ev_lift, ev_lift0, ev_opnd, ev_opnds, ev_slD, ev_ra, ev_rv, ev_mBin, ev_mBinO, ev_dr, ev_dz, ev_doz, ev_ode, ev_ac, ev_mB1, ev_mBO, ev_opndsL, ev_rsvs0, ev_rsvs1, ev_rsvd, ev_rsvs, ev_bindS, ev_mTrue, ev_mB, ev_mAnd, ev_mOr, ev_mNot, ev_mIf, ev_mTup, ev_mLst, ev_argsD0, ev_argsD1, ev_vals, ev_mRet, ev_sto, ev_sto2, ev_mPar2, ev_mPar3, ev_gN, ev_gTt, ev_gTl, ev_tgt0, ev_tgt1, ev_gF, ev_fzd, ev_fzo, ev_mOwn, ev_mOut, ev_mIsI, ev_mNeg, ev_opNeg, ev_mSl, ev_mSlL, ev_slcT, ev_slcL, ev_mPart, ev_mRev, ev_mStr1, ev_mChain, ev_mFun, ev_mask0, ev_mask1, ev_mk1o, ev_mk1f, ev_mk1d, ev_mk1u, ev_mCall, ev_lend0, ev_lend1, ev_lend2, ev_noS0, ev_noSd, ev_noSs, ev_back, ev_anyS0, ev_anySd, ev_anySs, ev_backF0, ev_backF1, ev_back1o, ev_back1d, ev_back1u, ev_got0, ev_gotd, ev_gots, ev_mItems, ev_itemsL, ev_itemsT, ev_mSigns, ev_mMeth, ev_chkL, ev_updO, ev_gAppend, ev_mSetIx, ev_gSet, ev_mRng, ev_rg1, ev_rg2, ev_mFor, ev_raise, ev_cI, ev_add, ev_sub, ev_abs, ev_max, ev_min, ev_inti, ev_intb, ev_lenL, ev_lenT, ev_lenS, ev_tupL, ev_tupT, ev_lstL, ev_lstT, ev_ixT, ev_ixL, ev_ixS, ev_at0, ev_at1, ev_at2, ev_at3, ev_at4, ev_at5, ev_at6, ev_at7, ev_ixN0, ev_ixN1, ev_is, ev_isnot, ev_isb, ev_isnotb, ev_addL, opEq_int, opNe_int, mSeq_def, isI, tyN, isN, opLt, opLe, opGt, opGe,
    List.getElem?_cons_zero, List.getElem?_cons_succ, List.getElem?_nil, List.set_cons_zero, List.set_cons_succ, List.length_cons, List.length_nil, List.cons_append, List.nil_append, List.replicate, List.append_nil, decide_true, decide_false, Int.reduceLT, Int.reduceLE, Int.reduceGT, Int.reduceGE, Int.reduceEq, Int.reduceNe, Int.reduceAdd, Int.reduceSub, Int.reduceMul, Int.reduceNeg, Int.reduceToNat, Int.reducePow, Nat.reduceAdd, Nat.reduceLT, Nat.reduceLeDiff, Nat.reduceEqDiff, Nat.reduceBNe, Nat.reduceBEq, gt_iff_lt, ge_iff_le, Bool.and_true, Bool.true_and, Bool.false_and, Bool.and_false, String.reduceBEq, Bool.or_false, Bool.or_true, Bool.true_or, Bool.false_or, and_true, true_and, not_true_eq_false, not_false_eq_true, ne_eq, true_or, or_true, false_or, or_false, and_false, false_and, if_true, if_false, Bool.not_true, Bool.not_false, reduceCtorEq, hc1, hb0, ha0, lit_0, str_ok, lroot_ok, opAdd_S1]))
    by_cases h0 : 0 < b
    · iterate 3 (try (simp (disch := (first | assumption | (simp only [List.length_append, List.length_cons, List.length_nil]; omega) | omega)) only [Int.cast_ofNat_Int, Int.natCast_zero, Int.natCast_one, ev_compL0, ev_compL1, ev_mTurn, ev_mComp, ev_wipe0, ev_wipe1, ev_rest0, ev_rest1, ev_isOwn0, ev_isOwn1, ev_con0, ev_con1, ev_all, ev_any, ev_bools0, ev_bools1, List.all_cons, List.all_nil, List.any_cons, List.any_nil, id_eq, ev_bnd, ev_ret, ev_fail, ev_lift, ev_lift0, ev_opnd, ev_opnds, ev_slD, ev_ra, ev_rv, ev_mBin, ev_mBinO, ev_dr, ev_dz, ev_doz, ev_ode, ev_ac, ev_mB1, ev_mBO, ev_opndsL, ev_rsvs0, ev_rsvs1, ev_rsvd, ev_rsvs, ev_bindS, ev_mTrue, ev_mB, ev_mAnd, ev_mOr, ev_mNot, ev_mIf, ev_mTup, ev_mLst, ev_argsD0, ev_argsD1, ev_vals, ev_mRet, ev_sto, ev_sto2, ev_mPar2, ev_mPar3, ev_gN, ev_gTt, ev_gTl, ev_tgt0, ev_tgt1, ev_gF, ev_fzd, ev_fzo, ev_mOwn, ev_mOut, ev_mIsI, ev_mNeg, ev_opNeg, ev_mSl, ev_mSlL, ev_slcT, ev_slcL, ev_mPart, ev_mRev, ev_mStr1, ev_mChain, ev_mFun, ev_mask0, ev_mask1, ev_mk1o, ev_mk1f, ev_mk1d, ev_mk1u, ev_mCall, ev_lend0, ev_lend1, ev_lend2, ev_noS0, ev_noSd, ev_noSs, ev_back, ev_anyS0, ev_anySd, ev_anySs, ev_backF0, ev_backF1, ev_back1o, ev_back1d, ev_back1u, ev_got0, ev_gotd, ev_gots, ev_mItems, ev_itemsL, ev_itemsT, ev_mSigns, ev_mMeth, ev_chkL, ev_updO, ev_gAppend, ev_mSetIx, ev_gSet, ev_mRng, ev_rg1, ev_rg2, ev_mFor, ev_raise, ev_cI, ev_add, ev_sub, ev_abs, ev_max, ev_min, ev_inti, ev_intb, ev_lenL, ev_lenT, ev_lenS, ev_tupL, ev_tupT, ev_lstL, ev_lstT, ev_ixT, ev_ixL, ev_ixS, ev_at0, ev_at1, ev_at2, ev_at3, ev_at4, ev_at5, ev_at6, ev_at7, ev_ixN0, ev_ixN1, ev_is, ev_isnot, ev_isb, ev_isnotb, ev_addL, opEq_int, opNe_int, mSeq_def, isI, tyN, isN, opLt, opLe, opGt, opGe,
    List.getElem?_cons_zero, List.getElem?_cons_succ, List.getElem?_nil, List.set_cons_zero, List.set_cons_succ, List.length_cons, List.length_nil, List.cons_append, List.nil_append, List.replicate, List.append_nil, decide_true, decide_false, Int.reduceLT, Int.reduceLE, Int.reduceGT, Int.reduceGE, Int.reduceEq, Int.reduceNe, Int.reduceAdd, Int.reduceSub, Int.reduceMul, Int.reduceNeg, Int.reduceToNat, Int.reducePow, Nat.reduceAdd, Nat.reduceLT, Nat.reduceLeDiff, Nat.reduceEqDiff, Nat.reduceBNe, Nat.reduceBEq, gt_iff_lt, ge_iff_le, Bool.and_true, Bool.true_and, Bool.false_and, Bool.and_false, String.reduceBEq, Bool.or_false, Bool.or_true, Bool.true_or, Bool.false_or, and_true, true_and, not_true_eq_false, not_false_eq_true, ne_eq, true_or, or_true, false_or, or_false, and_false, false_and, if_true, if_false, Bool.not_true, Bool.not_false, reduceCtorEq, hc1, hb0, ha0, h0, lit_0, lit_p, str_ok, lroot_ok, opAdd_S1, List.append_assoc]))
    · iterate 3 (try (simp (disch := (first | assumption | (simp only [List.length_append, List.length_cons, List.length_nil]; omega) | omega)) only [Int.cast_ofNat_Int, Int.natCast_zero, Int.natCast_one, ev_compL0, ev_compL1, ev_mTurn, ev_mComp, ev_wipe0, ev_wipe1, ev_rest0, ev_rest1, ev_isOwn0, ev_isOwn1, ev_con0, ev_con1, ev_all, ev_any, ev_bools0, ev_bools1, List.all_cons, List.all_nil, List.any_cons, List.any_nil, id_eq, ev_bnd, ev_ret, ev_fail, ev_lift, ev_lift0, ev_opnd, ev_opnds, ev_slD, ev_ra, ev_rv, ev_mBin, ev_mBinO, ev_dr, ev_dz, ev_doz, ev_ode, ev_ac, ev_mB1, ev_mBO, ev_opndsL, ev_rsvs0, ev_rsvs1, ev_rsvd, ev_rsvs, ev_bindS, ev_mTrue, ev_mB, ev_mAnd, ev_mOr, ev_mNot, ev_mIf, ev_mTup, ev_mLst, ev_argsD0, ev_argsD1, ev_vals, ev_mRet, ev_sto, ev_sto2, ev_mPar2, ev_mPar3, ev_gN, ev_gTt, ev_gTl, ev_tgt0, ev_tgt1, ev_gF, ev_fzd, ev_fzo, ev_mOwn, ev_mOut, ev_mIsI, ev_mNeg, ev_opNeg, ev_mSl, ev_mSlL, ev_slcT, ev_slcL, ev_mPart, ev_mRev, ev_mStr1, ev_mChain, ev_mFun, ev_mask0, ev_mask1, ev_mk1o, ev_mk1f, ev_mk1d, ev_mk1u, ev_mCall, ev_lend0, ev_lend1, ev_lend2, ev_noS0, ev_noSd, ev_noSs, ev_back, ev_anyS0, ev_anySd, ev_anySs, ev_backF0, ev_backF1, ev_back1o, ev_back1d, ev_back1u, ev_got0, ev_gotd, ev_gots, ev_mItems, ev_itemsL, ev_itemsT, ev_mSigns, ev_mMeth, ev_chkL, ev_updO, ev_gAppend, ev_mSetIx, ev_gSet, ev_mRng, ev_rg1, ev_rg2, ev_mFor, ev_raise, ev_cI, ev_add, ev_sub, ev_abs, ev_max, ev_min, ev_inti, ev_intb, ev_lenL, ev_lenT, ev_lenS, ev_tupL, ev_tupT, ev_lstL, ev_lstT, ev_ixT, ev_ixL, ev_ixS, ev_at0, ev_at1, ev_at2, ev_at3, ev_at4, ev_at5, ev_at6, ev_at7, ev_ixN0, ev_ixN1, ev_is, ev_isnot, ev_isb, ev_isnotb, ev_addL, opEq_int, opNe_int, mSeq_def, isI, tyN, isN, opLt, opLe, opGt, opGe,
    List.getElem?_cons_zero, List.getElem?_cons_succ, List.getElem?_nil, List.set_cons_zero, List.set_cons_succ, List.length_cons, List.length_nil, List.cons_append, List.nil_append, List.replicate, List.append_nil, decide_true, decide_false, Int.reduceLT, Int.reduceLE, Int.reduceGT, Int.reduceGE, Int.reduceEq, Int.reduceNe, Int.reduceAdd, Int.reduceSub, Int.reduceMul, Int.reduceNeg, Int.reduceToNat, Int.reducePow, Nat.reduceAdd, Nat.reduceLT, Nat.reduceLeDiff, Nat.reduceEqDiff, Nat.reduceBNe, Nat.reduceBEq, gt_iff_lt, ge_iff_le, Bool.and_true, Bool.true_and, Bool.false_and, Bool.and_false, String.reduceBEq, Bool.or_false, Bool.or_true, Bool.true_or, Bool.false_or, and_true, true_and, not_true_eq_false, not_false_eq_true, ne_eq, true_or, or_true, false_or, or_false, and_false, false_and, if_true, if_false, Bool.not_true, Bool.not_false, reduceCtorEq, hc1, hb0, ha0, h0, lit_0, lit_p, str_ok, lroot_ok, opAdd_S1, List.append_assoc]))
  · by_cases hb0 : b = 0
    · iterate 3 (try (simp (disch := (first | assumption | (simp only [List.length_append, List.length_cons, List.length_nil]; omega) | omega)) only [Int.cast_ofNat_Int, Int.natCast_zero, Int.natCast_one, ev_compL0, ev_compL1, ev_mTurn, ev_mComp, ev_wipe0, ev_wipe1, ev_rest0, ev_rest1, ev_isOwn0, ev_isOwn1, ev_con0, ev_con1, ev_all, ev_any, ev_bools0, ev_bools1, List.all_cons, List.all_nil, List.any_cons, List.any_nil, id_eq, ev_bnd, ev_ret, ev_fail, ev_lift, ev_lift0, ev_opnd, ev_opnds, ev_slD, ev_ra, ev_rv, ev_mBin, ev_mBinO, ev_dr, ev_dz, ev_doz, ev_ode, ev_ac, ev_mB1, ev_mBO, ev_opndsL, ev_rsvs0, ev_rsvs1, ev_rsvd, ev_rsvs, ev_bindS, ev_mTrue, ev_mB, ev_mAnd, ev_mOr, ev_mNot, ev_mIf, ev_mTup, ev_mLst, ev_argsD0, ev_argsD1, ev_vals, ev_mRet, ev_sto, ev_sto2, ev_mPar2, ev_mPar3, ev_gN, ev_gTt, ev_gTl, ev_tgt0, ev_tgt1, ev_gF, ev_fzd, ev_fzo, ev_mOwn, ev_mOut, ev_mIsI, ev_mNeg, ev_opNeg, ev_mSl, ev_mSlL, ev_slcT, ev_slcL, ev_mPart, ev_mRev, ev_mStr1, ev_mChain, ev_mFun, ev_mask0, ev_mask1, ev_mk1o, ev_mk1f, ev_mk1d, ev_mk1u, ev_mCall, ev_lend0, ev_lend1, ev_lend2, ev_noS0, ev_noSd, ev_noSs, ev_back, ev_anyS0, ev_anySd, ev_anySs, ev_backF0, ev_backF1, ev_back1o, ev_back1d, ev_back1u, ev_got0, ev_gotd, ev_gots, ev_mItems, ev_itemsL, ev_itemsT, ev_mSigns, ev_mMeth, ev_chkL, ev_updO, ev_gAppend, ev_mSetIx, ev_gSet, ev_mRng, ev_rg1, ev_rg2, ev_mFor, ev_raise, ev_cI, ev_add, ev_sub, ev_abs, ev_max, ev_min, ev_inti, ev_intb, ev_lenL, ev_lenT, ev_lenS, ev_tupL, ev_tupT, ev_lstL, ev_lstT, ev_ixT, ev_ixL, ev_ixS, ev_at0, ev_at1, ev_at2, ev_at3, ev_at4, ev_at5, ev_at6, ev_at7, ev_ixN0, ev_ixN1, ev_is, ev_isnot, ev_isb, ev_isnotb, ev_addL, opEq_int, opNe_int, mSeq_def, isI, tyN, isN, opLt, opLe, opGt, opGe,
    List.getElem?_cons_zero, List.getElem?_cons_succ, List.getElem?_nil, List.set_cons_zero, List.set_cons_succ, List.length_cons, List.length_nil, List.cons_append, List.nil_append, List.replicate, List.append_nil, decide_true, decide_false, Int.reduceLT, Int.reduceLE, Int.reduceGT, Int.reduceGE, Int.reduceEq, Int.reduceNe, Int.reduceAdd, Int.reduceSub, Int.reduceMul, Int.reduceNeg, Int.reduceToNat, Int.reducePow, Nat.reduceAdd, Nat.reduceLT, Nat.reduceLeDiff, Nat.reduceEqDiff, Nat.reduceBNe, Nat.reduceBEq, gt_iff_lt, ge_iff_le, Bool.and_true, Bool.true_and, Bool.false_and, Bool.and_false, String.reduceBEq, Bool.or_false, Bool.or_true, Bool.true_or, Bool.false_or, and_true, true_and, not_true_eq_false, not_false_eq_true, ne_eq, true_or, or_true, false_or, or_false, and_false, false_and, if_true, if_false, Bool.not_true, Bool.not_false, reduceCtorEq, hc1, hb0, lit_s, str_ok, opAdd_S1, List.append_assoc]))
    by_cases ha0 : a = 0
    · iterate 3 (try (simp (disch := (first | assumption | (simp only [List.length_append, List.length_cons, List.length_nil]; omega) | omega)) only [Int.cast_ofNat_Int, Int.natCast_zero, Int.natCast_one, ev_compL0, ev_compL1, ev_mTurn, ev_mComp, ev_wipe0, ev_wipe1, ev_rest0, ev_rest1, ev_isOwn0, ev_isOwn1, ev_con0, ev_con1, ev_all, ev_any, ev_bools0, ev_bools1, List.all_cons, List.all_nil, List.any_cons, List.any_nil, id_eq, ev_bnd, ev_ret, ev_fail, ev_lift, ev_lift0, ev_opnd, ev_opnds, ev_slD, ev_ra, ev_rv, ev_mBin, ev_mBinO, ev_dr, ev_dz, ev_doz, ev_ode, ev_ac, ev_mB1, ev_mBO, ev_opndsL, ev_rsvs0, ev_rsvs1, ev_rsvd, ev_rsvs, ev_bindS, ev_mTrue, ev_mB, ev_mAnd, ev_mOr, ev_mNot, ev_mIf, ev_mTup, ev_mLst, ev_argsD0, ev_argsD1, ev_vals, ev_mRet, ev_sto, ev_sto2, ev_mPar2, ev_mPar3, ev_gN, ev_gTt, ev_gTl, ev_tgt0, ev_tgt1, ev_gF, ev_fzd, ev_fzo, ev_mOwn, ev_mOut, ev_mIsI, ev_mNeg, ev_opNeg, ev_mSl, ev_mSlL, ev_slcT, ev_slcL, ev_mPart, ev_mRev, ev_mStr1, ev_mChain, ev_mFun, ev_mask0, ev_mask1, ev_mk1o, ev_mk1f, ev_mk1d, ev_mk1u, ev_mCall, ev_lend0, ev_lend1, ev_lend2, ev_noS0, ev_noSd, ev_noSs, ev_back, ev_anyS0, ev_anySd, ev_anySs, ev_backF0, ev_backF1, ev_back1o, ev_back1d, ev_back1u, ev_got0, ev_gotd, ev_gots, ev_mItems, ev_itemsL, ev_itemsT, ev_mSigns, ev_mMeth, ev_chkL, ev_updO, ev_gAppend, ev_mSetIx, ev_gSet, ev_mRng, ev_rg1, ev_rg2, ev_mFor, ev_raise, ev_cI, ev_add, ev_sub, ev_abs, ev_max, ev_min, ev_inti, ev_intb, ev_lenL, ev_lenT, ev_lenS, ev_tupL, ev_tupT, ev_lstL, ev_lstT, ev_ixT, ev_ixL, ev_ixS, ev_at0, ev_at1, ev_at2, ev_at3, ev_at4, ev_at5, ev_at6, ev_at7, ev_ixN0, ev_ixN1, ev_is, ev_isnot, ev_isb, ev_isnotb, ev_addL, opEq_int, opNe_int, mSeq_def, isI, tyN, isN, opLt, opLe, opGt, opGe,
    List.getElem?_cons_zero, List.getElem?_cons_succ, List.getElem?_nil, List.set_cons_zero, List.set_cons_succ, List.length_cons, List.length_nil, List.cons_append, List.nil_append, List.replicate, List.append_nil, decide_true, decide_false, Int.reduceLT, Int.reduceLE, Int.reduceGT, Int.reduceGE, Int.reduceEq, Int.reduceNe, Int.reduceAdd, Int.reduceSub, Int.reduceMul, Int.reduceNeg, Int.reduceToNat, Int.reducePow, Nat.reduceAdd, Nat.reduceLT, Nat.reduceLeDiff, Nat.reduceEqDiff, Nat.reduceBNe, Nat.reduceBEq, gt_iff_lt, ge_iff_le, Bool.and_true, Bool.true_and, Bool.false_and, Bool.and_false, String.reduceBEq, Bool.or_false, Bool.or_true, Bool.true_or, Bool.false_or, and_true, true_and, not_true_eq_false, not_false_eq_true, ne_eq, true_or, or_true, false_or, or_false, and_false, false_and, if_true, if_false, Bool.not_true, Bool.not_false, reduceCtorEq, hc1, hb0, ha0, lit_s, lroot_ok, str_ok, opAdd_S1, List.append_assoc]))
    by_cases h0 : 0 < b
    · iterate 3 (try (simp (disch := (first | assumption | (simp only [List.length_append, List.length_cons, List.length_nil]; omega) | omega)) only [Int.cast_ofNat_Int, Int.natCast_zero, Int.natCast_one, ev_compL0, ev_compL1, ev_mTurn, ev_mComp, ev_wipe0, ev_wipe1, ev_rest0, ev_rest1, ev_isOwn0, ev_isOwn1, ev_con0, ev_con1, ev_all, ev_any, ev_bools0, ev_bools1, List.all_cons, List.all_nil, List.any_cons, List.any_nil, id_eq, ev_bnd, ev_ret, ev_fail, ev_lift, ev_lift0, ev_opnd, ev_opnds, ev_slD, ev_ra, ev_rv, ev_mBin, ev_mBinO, ev_dr, ev_dz, ev_doz, ev_ode, ev_ac, ev_mB1, ev_mBO, ev_opndsL, ev_rsvs0, ev_rsvs1, ev_rsvd, ev_rsvs, ev_bindS, ev_mTrue, ev_mB, ev_mAnd, ev_mOr, ev_mNot, ev_mIf, ev_mTup, ev_mLst, ev_argsD0, ev_argsD1, ev_vals, ev_mRet, ev_sto, ev_sto2, ev_mPar2, ev_mPar3, ev_gN, ev_gTt, ev_gTl, ev_tgt0, ev_tgt1, ev_gF, ev_fzd, ev_fzo, ev_mOwn, ev_mOut, ev_mIsI, ev_mNeg, ev_opNeg, ev_mSl, ev_mSlL, ev_slcT, ev_slcL, ev_mPart, ev_mRev, ev_mStr1, ev_mChain, ev_mFun, ev_mask0, ev_mask1, ev_mk1o, ev_mk1f, ev_mk1d, ev_mk1u, ev_mCall, ev_lend0, ev_lend1, ev_lend2, ev_noS0, ev_noSd, ev_noSs, ev_back, ev_anyS0, ev_anySd, ev_anySs, ev_backF0, ev_backF1, ev_back1o, ev_back1d, ev_back1u, ev_got0, ev_gotd, ev_gots, ev_mItems, ev_itemsL, ev_itemsT, ev_mSigns, ev_mMeth, ev_chkL, ev_updO, ev_gAppend, ev_mSetIx, ev_gSet, ev_mRng, ev_rg1, ev_rg2, ev_mFor, ev_raise, ev_cI, ev_add, ev_sub, ev_abs, ev_max, ev_min, ev_inti, ev_intb, ev_lenL, ev_lenT, ev_lenS, ev_tupL, ev_tupT, ev_lstL, ev_lstT, ev_ixT, ev_ixL, ev_ixS, ev_at0, ev_at1, ev_at2, ev_at3, ev_at4, ev_at5, ev_at6, ev_at7, ev_ixN0, ev_ixN1, ev_is, ev_isnot, ev_isb, ev_isnotb, ev_addL, opEq_int, opNe_int, mSeq_def, isI, tyN, isN, opLt, opLe, opGt, opGe,
    List.getElem?_cons_zero, List.getElem?_cons_succ, List.getElem?_nil, List.set_cons_zero, List.set_cons_succ, List.length_cons, List.length_nil, List.cons_append, List.nil_append, List.replicate, List.append_nil, decide_true, decide_false, Int.reduceLT, Int.reduceLE, Int.reduceGT, Int.reduceGE, Int.reduceEq, Int.reduceNe, Int.reduceAdd, Int.reduceSub, Int.reduceMul, Int.reduceNeg, Int.reduceToNat, Int.reducePow, Nat.reduceAdd, Nat.reduceLT, Nat.reduceLeDiff, Nat.reduceEqDiff, Nat.reduceBNe, Nat.reduceBEq, gt_iff_lt, ge_iff_le, Bool.and_true, Bool.true_and, Bool.false_and, Bool.and_false, String.reduceBEq, Bool.or_false, Bool.or_true, Bool.true_or, Bool.false_or, and_true, true_and, not_true_eq_false, not_false_eq_true, ne_eq, true_or, or_true, false_or, or_false, and_false, false_and, if_true, if_false, Bool.not_true, Bool.not_false, reduceCtorEq, hc1, hb0, ha0, h0, lit_0, lit_s, lit_o, lit_c, lit_p, str_ok, lroot_ok, opAdd_S1, List.append_assoc]))
    · iterate 3 (try (simp (disch := (first | assumption | (simp only [List.length_append, List.length_cons, List.length_nil]; omega) | omega)) only [Int.cast_ofNat_Int, Int.natCast_zero, Int.natCast_one, ev_compL0, ev_compL1, ev_mTurn, ev_mComp, ev_wipe0, ev_wipe1, ev_rest0, ev_rest1, ev_isOwn0, ev_isOwn1, ev_con0, ev_con1, ev_all, ev_any, ev_bools0, ev_bools1, List.all_cons, List.all_nil, List.any_cons, List.any_nil, id_eq, ev_bnd, ev_ret, ev_fail, ev_lift, ev_lift0, ev_opnd, ev_opnds, ev_slD, ev_ra, ev_rv, ev_mBin, ev_mBinO, ev_dr, ev_dz, ev_doz, ev_ode, ev_ac, ev_mB1, ev_mBO, ev_opndsL, ev_rsvs0, ev_rsvs1, ev_rsvd, ev_rsvs, ev_bindS, ev_mTrue, ev_mB, ev_mAnd, ev_mOr, ev_mNot, ev_mIf, ev_mTup, ev_mLst, ev_argsD0, ev_argsD1, ev_vals, ev_mRet, ev_sto, ev_sto2, ev_mPar2, ev_mPar3, ev_gN, ev_gTt, ev_gTl, ev_tgt0, ev_tgt1, ev_gF, ev_fzd, ev_fzo, ev_mOwn, ev_mOut, ev_mIsI, ev_mNeg, ev_opNeg, ev_mSl, ev_mSlL, ev_slcT, ev_slcL, ev_mPart, ev_mRev, ev_mStr1, ev_mChain, ev_mFun, ev_mask0, ev_mask1, ev_mk1o, ev_mk1f, ev_mk1d, ev_mk1u, ev_mCall, ev_lend0, ev_lend1, ev_lend2, ev_noS0, ev_noSd, ev_noSs, ev_back, ev_anyS0, ev_anySd, ev_anySs, ev_backF0, ev_backF1, ev_back1o, ev_back1d, ev_back1u, ev_got0, ev_gotd, ev_gots, ev_mItems, ev_itemsL, ev_itemsT, ev_mSigns, ev_mMeth, ev_chkL, ev_updO, ev_gAppend, ev_mSetIx, ev_gSet, ev_mRng, ev_rg1, ev_rg2, ev_mFor, ev_raise, ev_cI, ev_add, ev_sub, ev_abs, ev_max, ev_min, ev_inti, ev_intb, ev_lenL, ev_lenT, ev_lenS, ev_tupL, ev_tupT, ev_lstL, ev_lstT, ev_ixT, ev_ixL, ev_ixS, ev_at0, ev_at1, ev_at2, ev_at3, ev_at4, ev_at5, ev_at6, ev_at7, ev_ixN0, ev_ixN1, ev_is, ev_isnot, ev_isb, ev_isnotb, ev_addL, opEq_int, opNe_int, mSeq_def, isI, tyN, isN, opLt, opLe, opGt, opGe,
    List.getElem?_cons_zero, List.getElem?_cons_succ, List.getElem?_nil, List.set_cons_zero, List.set_cons_succ, List.length_cons, List.length_nil, List.cons_append, List.nil_append, List.replicate, List.append_nil, decide_true, decide_false, Int.reduceLT, Int.reduceLE, Int.reduceGT, Int.reduceGE, Int.reduceEq, Int.reduceNe, Int.reduceAdd, Int.reduceSub, Int.reduceMul, Int.reduceNeg, Int.reduceToNat, Int.reducePow, Nat.reduceAdd, Nat.reduceLT, Nat.reduceLeDiff, Nat.reduceEqDiff, Nat.reduceBNe, Nat.reduceBEq, gt_iff_lt, ge_iff_le, Bool.and_true, Bool.true_and, Bool.false_and, Bool.and_false, String.reduceBEq, Bool.or_false, Bool.or_true, Bool.true_or, Bool.false_or, and_true, true_and, not_true_eq_false, not_false_eq_true, ne_eq, true_or, or_true, false_or, or_false, and_false, false_and, if_true, if_false, Bool.not_true, Bool.not_false, reduceCtorEq, hc1, hb0, ha0, h0, lit_0, lit_s, lit_o, lit_c, lit_p, str_ok, lroot_ok, opAdd_S1, List.append_assoc]))

/-! ### texts read -/
theorem slcS {l : List Nat} {lo hi : Option Int} (h : l.length ≤ 1000) : slcD (S l) lo hi = some (S (cutL l lo hi)) := slcD_S (size_le (by omega))
theorem cut_to1 (l : List Nat) : cutL l none (some 1) = l.take 1 := cut_to (k := 1)
theorem cut_from1 (l : List Nat) : cutL l (some 1) none = l.drop 1 := cut_from (k := 1)
theorem cut_mid1 (l : List Nat) : cutL l (some 1) (some (-1)) = (l.take (l.length - 1)).drop 1 := cut_mid (k := 1)
theorem len_S {l : List Nat} (h : l.length ≤ 1000) : bLen [S l] = some (.int l.length) := bLen_S (size_le (by omega))
theorem intL_neg {a : Int} (h : a < 0) : intL a = 45 :: numL a.natAbs := if_pos h
theorem intL_pos {a : Int} (h : ¬ a < 0) : intL a = numL a.natAbs := if_neg h
theorem fig_mem {c : Nat} (h : 48 ≤ c ∧ c ≤ 57) : c ∈ [48, 49, 50, 51, 52, 53, 54, 55, 56, 57] := by
  have : c = 48 ∨ c = 49 ∨ c = 50 ∨ c = 51 ∨ c = 52 ∨ c = 53 ∨ c = 54 ∨ c = 55 ∨ c = 56 ∨ c = 57 := by omega
  rcases this with rfl | rfl | rfl | rfl | rfl | rfl | rfl | rfl | rfl | rfl <;> decide
theorem all_figs {n : Nat} (h : n < 10 ^ 40) (s : D) : q_whole_of_1 [.d s, .d (S (numL n)), .un] = some (.ok (.l ((numL n).map fun _ => PyData.bool true)) [.d s, .d (S (numL n)), .un]) := by
  have hl := numL_len40 h
  have e : (numL n).map (fun _ => PyData.bool true) = ((numL n).map fun c => S [c]).map (fun _ => PyData.bool true) := by rw [List.map_map]; rfl
  unfold q_whole_of_1
  rw [e]
  refine mComp_map (ρw := [.d s, .d (S (numL n)), .un]) (xs := (numL n).map fun c => S [c]) ?_ rfl ?_ (by rw [List.length_map]; exact size_le (by omega))
  · iterate 3 (try (simp only [Int.cast_ofNat_Int, Int.natCast_zero, Int.natCast_one, ev_compL0, ev_compL1, ev_mTurn, ev_mComp, ev_wipe0, ev_wipe1, ev_rest0, ev_rest1, ev_isOwn0, ev_isOwn1, ev_con0, ev_con1, ev_all, ev_any, ev_bools0, ev_bools1, List.all_cons, List.all_nil, List.any_cons, List.any_nil, id_eq, ev_bnd, ev_ret, ev_fail, ev_lift, ev_lift0, ev_opnd, ev_opnds, ev_slD, ev_ra, ev_rv, ev_mBin, ev_mBinO, ev_dr, ev_dz, ev_doz, ev_ode, ev_ac, ev_mB1, ev_mBO, ev_opndsL, ev_rsvs0, ev_rsvs1, ev_rsvd, ev_rsvs, ev_bindS, ev_mTrue, ev_mB, ev_mAnd, ev_mOr, ev_mNot, ev_mIf, ev_mTup, ev_mLst, ev_argsD0, ev_argsD1, ev_vals, ev_mRet, ev_sto, ev_sto2, ev_mPar2, ev_mPar3, ev_gN, ev_gTt, ev_gTl, ev_tgt0, ev_tgt1, ev_gF, ev_fzd, ev_fzo, ev_mOwn, ev_mOut, ev_mIsI, ev_mNeg, ev_opNeg, ev_mSl, ev_mSlL, ev_slcT, ev_slcL, ev_mPart, ev_mRev, ev_mStr1, ev_mChain, ev_mFun, ev_mask0, ev_mask1, ev_mk1o, ev_mk1f, ev_mk1d, ev_mk1u, ev_mCall, ev_lend0, ev_lend1, ev_lend2, ev_noS0, ev_noSd, ev_noSs, ev_back, ev_anyS0, ev_anySd, ev_anySs, ev_backF0, ev_backF1, ev_back1o, ev_back1d, ev_back1u, ev_got0, ev_gotd, ev_gots, ev_mItems, ev_itemsL, ev_itemsT, ev_mSigns, ev_mMeth, ev_chkL, ev_updO, ev_gAppend, ev_mSetIx, ev_gSet, ev_mRng, ev_rg1, ev_rg2, ev_mFor, ev_raise, ev_cI, ev_add, ev_sub, ev_abs, ev_max, ev_min, ev_inti, ev_intb, ev_lenL, ev_lenT, ev_lenS, ev_tupL, ev_tupT, ev_lstL, ev_lstT, ev_ixT, ev_ixL, ev_ixS, ev_at0, ev_at1, ev_at2, ev_at3, ev_at4, ev_at5, ev_at6, ev_at7, ev_ixN0, ev_ixN1, ev_is, ev_isnot, ev_isb, ev_isnotb, ev_addL, opEq_int, opNe_int, mSeq_def, isI, tyN, isN, opLt, opLe, opGt, opGe,
    List.getElem?_cons_zero, List.getElem?_cons_succ, List.getElem?_nil, List.set_cons_zero, List.set_cons_succ, List.length_cons, List.length_nil, List.cons_append, List.nil_append, List.replicate, List.append_nil, decide_true, decide_false, Int.reduceLT, Int.reduceLE, Int.reduceGT, Int.reduceGE, Int.reduceEq, Int.reduceNe, Int.reduceAdd, Int.reduceSub, Int.reduceMul, Int.reduceNeg, Int.reduceToNat, Int.reducePow, Nat.reduceAdd, Nat.reduceLT, Nat.reduceLeDiff, Nat.reduceEqDiff, Nat.reduceBNe, Nat.reduceBEq, gt_iff_lt, ge_iff_le, Bool.and_true, Bool.true_and, Bool.false_and, Bool.and_false, String.reduceBEq, Bool.or_false, Bool.or_true, Bool.true_or, Bool.false_or, and_true, true_and, not_true_eq_false, not_false_eq_true, ne_eq, true_or, or_true, false_or, or_false, and_false, false_and, if_true, if_false, Bool.not_true, Bool.not_false, reduceCtorEq, signs_S]))
  · intro x hx
    obtain ⟨c, hc, rfl⟩ := List.mem_map.mp hx
    have hm := fig_mem (numL_digits n c hc)
    refine ⟨[.d s, .d (S (numL n)), .d (S [c])], ?_, rfl⟩
    iterate 3 (try (simp only [Int.cast_ofNat_Int, Int.natCast_zero, Int.natCast_one, ev_compL0, ev_compL1, ev_mTurn, ev_mComp, ev_wipe0, ev_wipe1, ev_rest0, ev_rest1, ev_isOwn0, ev_isOwn1, ev_con0, ev_con1, ev_all, ev_any, ev_bools0, ev_bools1, List.all_cons, List.all_nil, List.any_cons, List.any_nil, id_eq, ev_bnd, ev_ret, ev_fail, ev_lift, ev_lift0, ev_opnd, ev_opnds, ev_slD, ev_ra, ev_rv, ev_mBin, ev_mBinO, ev_dr, ev_dz, ev_doz, ev_ode, ev_ac, ev_mB1, ev_mBO, ev_opndsL, ev_rsvs0, ev_rsvs1, ev_rsvd, ev_rsvs, ev_bindS, ev_mTrue, ev_mB, ev_mAnd, ev_mOr, ev_mNot, ev_mIf, ev_mTup, ev_mLst, ev_argsD0, ev_argsD1, ev_vals, ev_mRet, ev_sto, ev_sto2, ev_mPar2, ev_mPar3, ev_gN, ev_gTt, ev_gTl, ev_tgt0, ev_tgt1, ev_gF, ev_fzd, ev_fzo, ev_mOwn, ev_mOut, ev_mIsI, ev_mNeg, ev_opNeg, ev_mSl, ev_mSlL, ev_slcT, ev_slcL, ev_mPart, ev_mRev, ev_mStr1, ev_mChain, ev_mFun, ev_mask0, ev_mask1, ev_mk1o, ev_mk1f, ev_mk1d, ev_mk1u, ev_mCall, ev_lend0, ev_lend1, ev_lend2, ev_noS0, ev_noSd, ev_noSs, ev_back, ev_anyS0, ev_anySd, ev_anySs, ev_backF0, ev_backF1, ev_back1o, ev_back1d, ev_back1u, ev_got0, ev_gotd, ev_gots, ev_mItems, ev_itemsL, ev_itemsT, ev_mSigns, ev_mMeth, ev_chkL, ev_updO, ev_gAppend, ev_mSetIx, ev_gSet, ev_mRng, ev_rg1, ev_rg2, ev_mFor, ev_raise, ev_cI, ev_add, ev_sub, ev_abs, ev_max, ev_min, ev_inti, ev_intb, ev_lenL, ev_lenT, ev_lenS, ev_tupL, ev_tupT, ev_lstL, ev_lstT, ev_ixT, ev_ixL, ev_ixS, ev_at0, ev_at1, ev_at2, ev_at3, ev_at4, ev_at5, ev_at6, ev_at7, ev_ixN0, ev_ixN1, ev_is, ev_isnot, ev_isb, ev_isnotb, ev_addL, opEq_int, opNe_int, mSeq_def, isI, tyN, isN, opLt, opLe, opGt, opGe,
    List.getElem?_cons_zero, List.getElem?_cons_succ, List.getElem?_nil, List.set_cons_zero, List.set_cons_succ, List.length_cons, List.length_nil, List.cons_append, List.nil_append, List.replicate, List.append_nil, decide_true, decide_false, Int.reduceLT, Int.reduceLE, Int.reduceGT, Int.reduceGE, Int.reduceEq, Int.reduceNe, Int.reduceAdd, Int.reduceSub, Int.reduceMul, Int.reduceNeg, Int.reduceToNat, Int.reducePow, Nat.reduceAdd, Nat.reduceLT, Nat.reduceLeDiff, Nat.reduceEqDiff, Nat.reduceBNe, Nat.reduceBEq, gt_iff_lt, ge_iff_le, Bool.and_true, Bool.true_and, Bool.false_and, Bool.and_false, String.reduceBEq, Bool.or_false, Bool.or_true, Bool.true_or, Bool.false_or, and_true, true_and, not_true_eq_false, not_false_eq_true, ne_eq, true_or, or_true, false_or, or_false, and_false, false_and, if_true, if_false, Bool.not_true, Bool.not_false, reduceCtorEq, v_FIGURES, lit_f, in_S, hm]))
theorem alltrue (l : List Nat) : bAll [.list (l.map fun _ => PyData.bool true)] = some (.bool true) := by
  have e : boolsOf (l.map fun _ => PyData.bool true) = some (l.map fun _ => true) := boolsOf_map (fun _ => true) l
  rw [ev_all, e]
  simp
theorem whole_int {a : Int} (h : a.natAbs < 10 ^ 40) : d_whole_of [.d (S (intL a))] = some (.ok (.d (.int a)) [.un]) := by
  have hl := intL_len h
  have hn := numL_len40 h
  have hne := numL_ne a.natAbs
  have hi : bInt [S (intL a)] = some (.int a) := by
    have e : (if (intL a).take 1 = [45] then (intL a).drop 1 else intL a) = numL a.natAbs := by
      by_cases q : a < 0
      · rw [intL_neg q]; rfl
      · rw [intL_pos q]
        rw [if_neg]
        intro z
        cases w : numL a.natAbs with
        | nil => exact hne w
        | cons c f =>
          rw [w] at z
          have := numL_head w
          simp at z
          omega
    rw [bInt_S (by rw [e]; exact hne) (by rw [e]; exact numL_dig _) (by omega), valL_int]
  have h1 : (mIf (mTrue (mBin opEq (dr (mSl (ra 0) (DL.ret none) (mPart (DL.ret (.int 1))))) (dr (DL.ret (.str "-"))))) (mSl (ra 0) (mPart (DL.ret (.int 1))) (DL.ret none)) (rv 0)) [.d (S (intL a)), .un, .un] = some (.ok (S (numL a.natAbs)) [.d (S (intL a)), .un, .un]) := by
    by_cases q : a < 0
    · rw [intL_neg q] at hl ⊢
      iterate 3 (try (simp (disch := (first | assumption | (simp only [List.length_append, List.length_cons, List.length_nil]; omega) | omega)) only [Int.cast_ofNat_Int, Int.natCast_zero, Int.natCast_one, ev_compL0, ev_compL1, ev_mTurn, ev_mComp, ev_wipe0, ev_wipe1, ev_rest0, ev_rest1, ev_isOwn0, ev_isOwn1, ev_con0, ev_con1, ev_all, ev_any, ev_bools0, ev_bools1, List.all_cons, List.all_nil, List.any_cons, List.any_nil, id_eq, ev_bnd, ev_ret, ev_fail, ev_lift, ev_lift0, ev_opnd, ev_opnds, ev_slD, ev_ra, ev_rv, ev_mBin, ev_mBinO, ev_dr, ev_dz, ev_doz, ev_ode, ev_ac, ev_mB1, ev_mBO, ev_opndsL, ev_rsvs0, ev_rsvs1, ev_rsvd, ev_rsvs, ev_bindS, ev_mTrue, ev_mB, ev_mAnd, ev_mOr, ev_mNot, ev_mIf, ev_mTup, ev_mLst, ev_argsD0, ev_argsD1, ev_vals, ev_mRet, ev_sto, ev_sto2, ev_mPar2, ev_mPar3, ev_gN, ev_gTt, ev_gTl, ev_tgt0, ev_tgt1, ev_gF, ev_fzd, ev_fzo, ev_mOwn, ev_mOut, ev_mIsI, ev_mNeg, ev_opNeg, ev_mSl, ev_mSlL, ev_slcT, ev_slcL, ev_mPart, ev_mRev, ev_mStr1, ev_mChain, ev_mFun, ev_mask0, ev_mask1, ev_mk1o, ev_mk1f, ev_mk1d, ev_mk1u, ev_mCall, ev_lend0, ev_lend1, ev_lend2, ev_noS0, ev_noSd, ev_noSs, ev_back, ev_anyS0, ev_anySd, ev_anySs, ev_backF0, ev_backF1, ev_back1o, ev_back1d, ev_back1u, ev_got0, ev_gotd, ev_gots, ev_mItems, ev_itemsL, ev_itemsT, ev_mSigns, ev_mMeth, ev_chkL, ev_updO, ev_gAppend, ev_mSetIx, ev_gSet, ev_mRng, ev_rg1, ev_rg2, ev_mFor, ev_raise, ev_cI, ev_add, ev_sub, ev_abs, ev_max, ev_min, ev_inti, ev_intb, ev_lenL, ev_lenT, ev_lenS, ev_tupL, ev_tupT, ev_lstL, ev_lstT, ev_ixT, ev_ixL, ev_ixS, ev_at0, ev_at1, ev_at2, ev_at3, ev_at4, ev_at5, ev_at6, ev_at7, ev_ixN0, ev_ixN1, ev_is, ev_isnot, ev_isb, ev_isnotb, ev_addL, opEq_int, opNe_int, mSeq_def, isI, tyN, isN, opLt, opLe, opGt, opGe,
    List.getElem?_cons_zero, List.getElem?_cons_succ, List.getElem?_nil, List.set_cons_zero, List.set_cons_succ, List.length_cons, List.length_nil, List.cons_append, List.nil_append, List.replicate, List.append_nil, decide_true, decide_false, Int.reduceLT, Int.reduceLE, Int.reduceGT, Int.reduceGE, Int.reduceEq, Int.reduceNe, Int.reduceAdd, Int.reduceSub, Int.reduceMul, Int.reduceNeg, Int.reduceToNat, Int.reducePow, Nat.reduceAdd, Nat.reduceLT, Nat.reduceLeDiff, Nat.reduceEqDiff, Nat.reduceBNe, Nat.reduceBEq, gt_iff_lt, ge_iff_le, Bool.and_true, Bool.true_and, Bool.false_and, Bool.and_false, String.reduceBEq, Bool.or_false, Bool.or_true, Bool.true_or, Bool.false_or, and_true, true_and, not_true_eq_false, not_false_eq_true, ne_eq, true_or, or_true, false_or, or_false, and_false, false_and, if_true, if_false, Bool.not_true, Bool.not_false, reduceCtorEq, slcS, cut_to1, cut_from1, lit_m, opEq_S, List.take_succ_cons, List.take_zero, List.drop_succ_cons, List.drop_zero]))
    · rw [intL_pos q] at hl ⊢
      have : ¬ (numL a.natAbs).take 1 = [45] := by
        intro z
        cases w : numL a.natAbs with
        | nil => exact hne w
        | cons c f =>
          rw [w] at z
          have := numL_head w
          simp at z
          omega
      iterate 3 (try (simp (disch := (first | assumption | (simp only [List.length_append, List.length_cons, List.length_nil]; omega) | omega)) only [Int.cast_ofNat_Int, Int.natCast_zero, Int.natCast_one, ev_compL0, ev_compL1, ev_mTurn, ev_mComp, ev_wipe0, ev_wipe1, ev_rest0, ev_rest1, ev_isOwn0, ev_isOwn1, ev_con0, ev_con1, ev_all, ev_any, ev_bools0, ev_bools1, List.all_cons, List.all_nil, List.any_cons, List.any_nil, id_eq, ev_bnd, ev_ret, ev_fail, ev_lift, ev_lift0, ev_opnd, ev_opnds, ev_slD, ev_ra, ev_rv, ev_mBin, ev_mBinO, ev_dr, ev_dz, ev_doz, ev_ode, ev_ac, ev_mB1, ev_mBO, ev_opndsL, ev_rsvs0, ev_rsvs1, ev_rsvd, ev_rsvs, ev_bindS, ev_mTrue, ev_mB, ev_mAnd, ev_mOr, ev_mNot, ev_mIf, ev_mTup, ev_mLst, ev_argsD0, ev_argsD1, ev_vals, ev_mRet, ev_sto, ev_sto2, ev_mPar2, ev_mPar3, ev_gN, ev_gTt, ev_gTl, ev_tgt0, ev_tgt1, ev_gF, ev_fzd, ev_fzo, ev_mOwn, ev_mOut, ev_mIsI, ev_mNeg, ev_opNeg, ev_mSl, ev_mSlL, ev_slcT, ev_slcL, ev_mPart, ev_mRev, ev_mStr1, ev_mChain, ev_mFun, ev_mask0, ev_mask1, ev_mk1o, ev_mk1f, ev_mk1d, ev_mk1u, ev_mCall, ev_lend0, ev_lend1, ev_lend2, ev_noS0, ev_noSd, ev_noSs, ev_back, ev_anyS0, ev_anySd, ev_anySs, ev_backF0, ev_backF1, ev_back1o, ev_back1d, ev_back1u, ev_got0, ev_gotd, ev_gots, ev_mItems, ev_itemsL, ev_itemsT, ev_mSigns, ev_mMeth, ev_chkL, ev_updO, ev_gAppend, ev_mSetIx, ev_gSet, ev_mRng, ev_rg1, ev_rg2, ev_mFor, ev_raise, ev_cI, ev_add, ev_sub, ev_abs, ev_max, ev_min, ev_inti, ev_intb, ev_lenL, ev_lenT, ev_lenS, ev_tupL, ev_tupT, ev_lstL, ev_lstT, ev_ixT, ev_ixL, ev_ixS, ev_at0, ev_at1, ev_at2, ev_at3, ev_at4, ev_at5, ev_at6, ev_at7, ev_ixN0, ev_ixN1, ev_is, ev_isnot, ev_isb, ev_isnotb, ev_addL, opEq_int, opNe_int, mSeq_def, isI, tyN, isN, opLt, opLe, opGt, opGe,
    List.getElem?_cons_zero, List.getElem?_cons_succ, List.getElem?_nil, List.set_cons_zero, List.set_cons_succ, List.length_cons, List.length_nil, List.cons_append, List.nil_append, List.replicate, List.append_nil, decide_true, decide_false, Int.reduceLT, Int.reduceLE, Int.reduceGT, Int.reduceGE, Int.reduceEq, Int.reduceNe, Int.reduceAdd, Int.reduceSub, Int.reduceMul, Int.reduceNeg, Int.reduceToNat, Int.reducePow, Nat.reduceAdd, Nat.reduceLT, Nat.reduceLeDiff, Nat.reduceEqDiff, Nat.reduceBNe, Nat.reduceBEq, gt_iff_lt, ge_iff_le, Bool.and_true, Bool.true_and, Bool.false_and, Bool.and_false, String.reduceBEq, Bool.or_false, Bool.or_true, Bool.true_or, Bool.false_or, and_true, true_and, not_true_eq_false, not_false_eq_true, ne_eq, true_or, or_true, false_or, or_false, and_false, false_and, if_true, if_false, Bool.not_true, Bool.not_false, reduceCtorEq, slcS, cut_to1, cut_from1, lit_m, opEq_S, this]))
  unfold d_whole_of b_whole_of
  rw [ev_mFun]
  have h40 : ¬ (40 : Int) < (numL a.natAbs).length := by omega
  iterate 3 (try (simp only [Int.cast_ofNat_Int, Int.natCast_zero, Int.natCast_one, ev_compL0, ev_compL1, ev_mTurn, ev_mComp, ev_wipe0, ev_wipe1, ev_rest0, ev_rest1, ev_isOwn0, ev_isOwn1, ev_con0, ev_con1, ev_all, ev_any, ev_bools0, ev_bools1, List.all_cons, List.all_nil, List.any_cons, List.any_nil, id_eq, ev_bnd, ev_ret, ev_fail, ev_lift, ev_lift0, ev_opnd, ev_opnds, ev_slD, ev_ra, ev_rv, ev_mBin, ev_mBinO, ev_dr, ev_dz, ev_doz, ev_ode, ev_ac, ev_mB1, ev_mBO, ev_opndsL, ev_rsvs0, ev_rsvs1, ev_rsvd, ev_rsvs, ev_bindS, ev_mTrue, ev_mB, ev_mAnd, ev_mOr, ev_mNot, ev_mIf, ev_mTup, ev_mLst, ev_argsD0, ev_argsD1, ev_vals, ev_mRet, ev_sto, ev_sto2, ev_mPar2, ev_mPar3, ev_gN, ev_gTt, ev_gTl, ev_tgt0, ev_tgt1, ev_gF, ev_fzd, ev_fzo, ev_mOwn, ev_mOut, ev_mIsI, ev_mNeg, ev_opNeg, ev_mSl, ev_mSlL, ev_slcT, ev_slcL, ev_mPart, ev_mRev, ev_mStr1, ev_mChain, ev_mFun, ev_mask0, ev_mask1, ev_mk1o, ev_mk1f, ev_mk1d, ev_mk1u, ev_mCall, ev_lend0, ev_lend1, ev_lend2, ev_noS0, ev_noSd, ev_noSs, ev_back, ev_anyS0, ev_anySd, ev_anySs, ev_backF0, ev_backF1, ev_back1o, ev_back1d, ev_back1u, ev_got0, ev_gotd, ev_gots, ev_mItems, ev_itemsL, ev_itemsT, ev_mSigns, ev_mMeth, ev_chkL, ev_updO, ev_gAppend, ev_mSetIx, ev_gSet, ev_mRng, ev_rg1, ev_rg2, ev_mFor, ev_raise, ev_cI, ev_add, ev_sub, ev_abs, ev_max, ev_min, ev_inti, ev_intb, ev_lenL, ev_lenT, ev_lenS, ev_tupL, ev_tupT, ev_lstL, ev_lstT, ev_ixT, ev_ixL, ev_ixS, ev_at0, ev_at1, ev_at2, ev_at3, ev_at4, ev_at5, ev_at6, ev_at7, ev_ixN0, ev_ixN1, ev_is, ev_isnot, ev_isb, ev_isnotb, ev_addL, opEq_int, opNe_int, mSeq_def, isI, tyN, isN, opLt, opLe, opGt, opGe,
    List.getElem?_cons_zero, List.getElem?_cons_succ, List.getElem?_nil, List.set_cons_zero, List.set_cons_succ, List.length_cons, List.length_nil, List.cons_append, List.nil_append, List.replicate, List.append_nil, decide_true, decide_false, Int.reduceLT, Int.reduceLE, Int.reduceGT, Int.reduceGE, Int.reduceEq, Int.reduceNe, Int.reduceAdd, Int.reduceSub, Int.reduceMul, Int.reduceNeg, Int.reduceToNat, Int.reducePow, Nat.reduceAdd, Nat.reduceLT, Nat.reduceLeDiff, Nat.reduceEqDiff, Nat.reduceBNe, Nat.reduceBEq, gt_iff_lt, ge_iff_le, Bool.and_true, Bool.true_and, Bool.false_and, Bool.and_false, String.reduceBEq, Bool.or_false, Bool.or_true, Bool.true_or, Bool.false_or, and_true, true_and, not_true_eq_false, not_false_eq_true, ne_eq, true_or, or_true, false_or, or_false, and_false, false_and, if_true, if_false, Bool.not_true, Bool.not_false, reduceCtorEq, -ev_mIf, h1]))
  iterate 3 (try (simp (disch := (first | assumption | (simp only [List.length_append, List.length_cons, List.length_nil]; omega) | omega)) only [Int.cast_ofNat_Int, Int.natCast_zero, Int.natCast_one, ev_compL0, ev_compL1, ev_mTurn, ev_mComp, ev_wipe0, ev_wipe1, ev_rest0, ev_rest1, ev_isOwn0, ev_isOwn1, ev_con0, ev_con1, ev_all, ev_any, ev_bools0, ev_bools1, List.all_cons, List.all_nil, List.any_cons, List.any_nil, id_eq, ev_bnd, ev_ret, ev_fail, ev_lift, ev_lift0, ev_opnd, ev_opnds, ev_slD, ev_ra, ev_rv, ev_mBin, ev_mBinO, ev_dr, ev_dz, ev_doz, ev_ode, ev_ac, ev_mB1, ev_mBO, ev_opndsL, ev_rsvs0, ev_rsvs1, ev_rsvd, ev_rsvs, ev_bindS, ev_mTrue, ev_mB, ev_mAnd, ev_mOr, ev_mNot, ev_mIf, ev_mTup, ev_mLst, ev_argsD0, ev_argsD1, ev_vals, ev_mRet, ev_sto, ev_sto2, ev_mPar2, ev_mPar3, ev_gN, ev_gTt, ev_gTl, ev_tgt0, ev_tgt1, ev_gF, ev_fzd, ev_fzo, ev_mOwn, ev_mOut, ev_mIsI, ev_mNeg, ev_opNeg, ev_mSl, ev_mSlL, ev_slcT, ev_slcL, ev_mPart, ev_mRev, ev_mStr1, ev_mChain, ev_mFun, ev_mask0, ev_mask1, ev_mk1o, ev_mk1f, ev_mk1d, ev_mk1u, ev_mCall, ev_lend0, ev_lend1, ev_lend2, ev_noS0, ev_noSd, ev_noSs, ev_back, ev_anyS0, ev_anySd, ev_anySs, ev_backF0, ev_backF1, ev_back1o, ev_back1d, ev_back1u, ev_got0, ev_gotd, ev_gots, ev_mItems, ev_itemsL, ev_itemsT, ev_mSigns, ev_mMeth, ev_chkL, ev_updO, ev_gAppend, ev_mSetIx, ev_gSet, ev_mRng, ev_rg1, ev_rg2, ev_mFor, ev_raise, ev_cI, ev_add, ev_sub, ev_abs, ev_max, ev_min, ev_inti, ev_intb, ev_lenL, ev_lenT, ev_lenS, ev_tupL, ev_tupT, ev_lstL, ev_lstT, ev_ixT, ev_ixL, ev_ixS, ev_at0, ev_at1, ev_at2, ev_at3, ev_at4, ev_at5, ev_at6, ev_at7, ev_ixN0, ev_ixN1, ev_is, ev_isnot, ev_isb, ev_isnotb, ev_addL, opEq_int, opNe_int, mSeq_def, isI, tyN, isN, opLt, opLe, opGt, opGe,
    List.getElem?_cons_zero, List.getElem?_cons_succ, List.getElem?_nil, List.set_cons_zero, List.set_cons_succ, List.length_cons, List.length_nil, List.cons_append, List.nil_append, List.replicate, List.append_nil, decide_true, decide_false, Int.reduceLT, Int.reduceLE, Int.reduceGT, Int.reduceGE, Int.reduceEq, Int.reduceNe, Int.reduceAdd, Int.reduceSub, Int.reduceMul, Int.reduceNeg, Int.reduceToNat, Int.reducePow, Nat.reduceAdd, Nat.reduceLT, Nat.reduceLeDiff, Nat.reduceEqDiff, Nat.reduceBNe, Nat.reduceBEq, gt_iff_lt, ge_iff_le, Bool.and_true, Bool.true_and, Bool.false_and, Bool.and_false, String.reduceBEq, Bool.or_false, Bool.or_true, Bool.true_or, Bool.false_or, and_true, true_and, not_true_eq_false, not_false_eq_true, ne_eq, true_or, or_true, false_or, or_false, and_false, false_and, if_true, if_false, Bool.not_true, Bool.not_false, reduceCtorEq, -ev_all, lit_0, opEq_S, hne, len_S, v_MOST_FIGURES, h40, all_figs h, alltrue, hi]))
/-! the roots' part -/
def stemL (b : Int) : List Nat := if b = 1 then [] else if b = -1 then [45] else intL b
def signL (b : Int) : List Nat := if 0 < b then [43] else []
theorem rootL_eq (b : Int) : rootL b = stemL b ++ [114] := by
  unfold rootL stemL
  split
  · rfl
  · split <;> rfl
theorem midL_eq (a b : Int) : midL a b = intL a ++ (signL b ++ stemL b) ++ [114] := by
  unfold midL
  rw [rootL_eq]
  simp [signL]
theorem stemL_len {b : Int} (h : b.natAbs < 10 ^ 40) : (stemL b).length ≤ 41 := by
  have := intL_len h
  unfold stemL
  split
  · decide
  · split
    · decide
    · exact this
theorem beq_mkS (a b : List Nat) : (mkS a == mkS b) = decide (a = b) := by
  by_cases h : a = b
  · subst h; simp
  · have : ¬ mkS a = mkS b := fun q => h (mkS_inj.mp q)
    simp [h, this]
theorem strOk_S {l : List Nat} (h : ∀ c ∈ l, c < 128) : PyData.strOk (mkS l) = true := by
  unfold PyData.strOk mkS
  rw [List.all_toArray, List.all_eq_true]
  intro c hc
  have := h c hc
  simp only [decide_eq_true_eq]
  omega
theorem intL_asc (i : Int) : ∀ c ∈ intL i, c < 128 := by
  intro c hc
  by_cases q : i < 0
  · rw [intL_neg q] at hc
    rcases List.mem_cons.mp hc with rfl | hc
    · decide
    · have := numL_digits _ c hc; omega
  · rw [intL_pos q] at hc
    have := numL_digits _ c hc; omega
theorem stemL_asc (b : Int) : ∀ c ∈ stemL b, c < 128 := by
  intro c hc
  unfold stemL at hc
  split at hc
  · cases hc
  · split at hc
    · rw [List.mem_singleton.mp hc]; decide
    · exact intL_asc b c hc
theorem in_3 {l : List Nat} (hl : ∀ c ∈ l, c < 128) : opIn (S l) (.tuple [S [], S [43], S [45]]) = some (.bool (decide (l = []) || (decide (l = [43]) || decide (l = [45])))) := by
  have h1 : SeqAt.shaped (S l) = true := by simp [SeqAt.shaped, PyData.canLay0, PyData.depth, strOk_S hl]
  have h2 : SeqAt.shaped (.tuple [S [], S [43], S [45]]) = true := by decide +kernel
  have e : ∀ z : List Nat, decide (z = l) = decide (l = z) := fun z => by rw [decide_eq_decide]; exact eq_comm
  have e2 : ∀ z : List Nat, PyData.eqv (S z) (S l) = decide (l = z) := fun z => by
    rw [← e, ← beq_mkS]
    simp only [PyData.eqv]
    try rfl
  unfold opIn inD
  simp only [h1, h2, and_self, if_true, List.any_cons, List.any_nil, e2, Bool.or_false]
theorem intL_ne (i : Int) : intL i ≠ [] := by
  unfold intL
  split
  · simp
  · exact numL_ne _
theorem intL_43 (i : Int) : ∀ l, intL i ≠ 43 :: l := by
  intro l q
  by_cases h : i < 0
  · rw [intL_neg h] at q; simp at q
  · rw [intL_pos h] at q
    have := numL_head q
    omega
theorem intL_45 (i : Int) : intL i ≠ [45] := by
  intro q
  by_cases h : i < 0
  · rw [intL_neg h] at q
    have := numL_ne i.natAbs
    simp at q
    exact this q
  · rw [intL_pos h] at q
    have := numL_head q
    omega
theorem roots_stem {b : Int} (h : b.natAbs < 10 ^ 40) : d_roots_of [.d (S (stemL b))] = some (.ok (.d (.int b)) [.un]) := by
  have hl := intL_len h
  have sz3 : (3 : Nat) ≤ sizeLine := by decide
  unfold d_roots_of b_roots_of stemL
  by_cases h1 : b = 1
  · subst h1
    iterate 3 (try (simp (disch := (first | assumption | (simp only [List.length_append, List.length_cons, List.length_nil]; omega) | omega)) only [Int.cast_ofNat_Int, Int.natCast_zero, Int.natCast_one, ev_compL0, ev_compL1, ev_mTurn, ev_mComp, ev_wipe0, ev_wipe1, ev_rest0, ev_rest1, ev_isOwn0, ev_isOwn1, ev_con0, ev_con1, ev_all, ev_any, ev_bools0, ev_bools1, List.all_cons, List.all_nil, List.any_cons, List.any_nil, id_eq, ev_bnd, ev_ret, ev_fail, ev_lift, ev_lift0, ev_opnd, ev_opnds, ev_slD, ev_ra, ev_rv, ev_mBin, ev_mBinO, ev_dr, ev_dz, ev_doz, ev_ode, ev_ac, ev_mB1, ev_mBO, ev_opndsL, ev_rsvs0, ev_rsvs1, ev_rsvd, ev_rsvs, ev_bindS, ev_mTrue, ev_mB, ev_mAnd, ev_mOr, ev_mNot, ev_mIf, ev_mTup, ev_mLst, ev_argsD0, ev_argsD1, ev_vals, ev_mRet, ev_sto, ev_sto2, ev_mPar2, ev_mPar3, ev_gN, ev_gTt, ev_gTl, ev_tgt0, ev_tgt1, ev_gF, ev_fzd, ev_fzo, ev_mOwn, ev_mOut, ev_mIsI, ev_mNeg, ev_opNeg, ev_mSl, ev_mSlL, ev_slcT, ev_slcL, ev_mPart, ev_mRev, ev_mStr1, ev_mChain, ev_mFun, ev_mask0, ev_mask1, ev_mk1o, ev_mk1f, ev_mk1d, ev_mk1u, ev_mCall, ev_lend0, ev_lend1, ev_lend2, ev_noS0, ev_noSd, ev_noSs, ev_back, ev_anyS0, ev_anySd, ev_anySs, ev_backF0, ev_backF1, ev_back1o, ev_back1d, ev_back1u, ev_got0, ev_gotd, ev_gots, ev_mItems, ev_itemsL, ev_itemsT, ev_mSigns, ev_mMeth, ev_chkL, ev_updO, ev_gAppend, ev_mSetIx, ev_gSet, ev_mRng, ev_rg1, ev_rg2, ev_mFor, ev_raise, ev_cI, ev_add, ev_sub, ev_abs, ev_max, ev_min, ev_inti, ev_intb, ev_lenL, ev_lenT, ev_lenS, ev_tupL, ev_tupT, ev_lstL, ev_lstT, ev_ixT, ev_ixL, ev_ixS, ev_at0, ev_at1, ev_at2, ev_at3, ev_at4, ev_at5, ev_at6, ev_at7, ev_ixN0, ev_ixN1, ev_is, ev_isnot, ev_isb, ev_isnotb, ev_addL, opEq_int, opNe_int, mSeq_def, isI, tyN, isN, opLt, opLe, opGt, opGe,
    List.getElem?_cons_zero, List.getElem?_cons_succ, List.getElem?_nil, List.set_cons_zero, List.set_cons_succ, List.length_cons, List.length_nil, List.cons_append, List.nil_append, List.replicate, List.append_nil, decide_true, decide_false, Int.reduceLT, Int.reduceLE, Int.reduceGT, Int.reduceGE, Int.reduceEq, Int.reduceNe, Int.reduceAdd, Int.reduceSub, Int.reduceMul, Int.reduceNeg, Int.reduceToNat, Int.reducePow, Nat.reduceAdd, Nat.reduceLT, Nat.reduceLeDiff, Nat.reduceEqDiff, Nat.reduceBNe, Nat.reduceBEq, gt_iff_lt, ge_iff_le, Bool.and_true, Bool.true_and, Bool.false_and, Bool.and_false, String.reduceBEq, Bool.or_false, Bool.or_true, Bool.true_or, Bool.false_or, and_true, true_and, not_true_eq_false, not_false_eq_true, ne_eq, true_or, or_true, false_or, or_false, and_false, false_and, if_true, if_false, Bool.not_true, Bool.not_false, reduceCtorEq, List.cons.injEq, lit_0, lit_p, lit_m, in_3 (l := []) (by decide), in_3 (l := [43]) (by decide), in_3 (l := [45]) (by decide), opEq_S, sz3]))
  by_cases h2 : b = -1
  · subst h2
    iterate 3 (try (simp (disch := (first | assumption | (simp only [List.length_append, List.length_cons, List.length_nil]; omega) | omega)) only [Int.cast_ofNat_Int, Int.natCast_zero, Int.natCast_one, ev_compL0, ev_compL1, ev_mTurn, ev_mComp, ev_wipe0, ev_wipe1, ev_rest0, ev_rest1, ev_isOwn0, ev_isOwn1, ev_con0, ev_con1, ev_all, ev_any, ev_bools0, ev_bools1, List.all_cons, List.all_nil, List.any_cons, List.any_nil, id_eq, ev_bnd, ev_ret, ev_fail, ev_lift, ev_lift0, ev_opnd, ev_opnds, ev_slD, ev_ra, ev_rv, ev_mBin, ev_mBinO, ev_dr, ev_dz, ev_doz, ev_ode, ev_ac, ev_mB1, ev_mBO, ev_opndsL, ev_rsvs0, ev_rsvs1, ev_rsvd, ev_rsvs, ev_bindS, ev_mTrue, ev_mB, ev_mAnd, ev_mOr, ev_mNot, ev_mIf, ev_mTup, ev_mLst, ev_argsD0, ev_argsD1, ev_vals, ev_mRet, ev_sto, ev_sto2, ev_mPar2, ev_mPar3, ev_gN, ev_gTt, ev_gTl, ev_tgt0, ev_tgt1, ev_gF, ev_fzd, ev_fzo, ev_mOwn, ev_mOut, ev_mIsI, ev_mNeg, ev_opNeg, ev_mSl, ev_mSlL, ev_slcT, ev_slcL, ev_mPart, ev_mRev, ev_mStr1, ev_mChain, ev_mFun, ev_mask0, ev_mask1, ev_mk1o, ev_mk1f, ev_mk1d, ev_mk1u, ev_mCall, ev_lend0, ev_lend1, ev_lend2, ev_noS0, ev_noSd, ev_noSs, ev_back, ev_anyS0, ev_anySd, ev_anySs, ev_backF0, ev_backF1, ev_back1o, ev_back1d, ev_back1u, ev_got0, ev_gotd, ev_gots, ev_mItems, ev_itemsL, ev_itemsT, ev_mSigns, ev_mMeth, ev_chkL, ev_updO, ev_gAppend, ev_mSetIx, ev_gSet, ev_mRng, ev_rg1, ev_rg2, ev_mFor, ev_raise, ev_cI, ev_add, ev_sub, ev_abs, ev_max, ev_min, ev_inti, ev_intb, ev_lenL, ev_lenT, ev_lenS, ev_tupL, ev_tupT, ev_lstL, ev_lstT, ev_ixT, ev_ixL, ev_ixS, ev_at0, ev_at1, ev_at2, ev_at3, ev_at4, ev_at5, ev_at6, ev_at7, ev_ixN0, ev_ixN1, ev_is, ev_isnot, ev_isb, ev_isnotb, ev_addL, opEq_int, opNe_int, mSeq_def, isI, tyN, isN, opLt, opLe, opGt, opGe,
    List.getElem?_cons_zero, List.getElem?_cons_succ, List.getElem?_nil, List.set_cons_zero, List.set_cons_succ, List.length_cons, List.length_nil, List.cons_append, List.nil_append, List.replicate, List.append_nil, decide_true, decide_false, Int.reduceLT, Int.reduceLE, Int.reduceGT, Int.reduceGE, Int.reduceEq, Int.reduceNe, Int.reduceAdd, Int.reduceSub, Int.reduceMul, Int.reduceNeg, Int.reduceToNat, Int.reducePow, Nat.reduceAdd, Nat.reduceLT, Nat.reduceLeDiff, Nat.reduceEqDiff, Nat.reduceBNe, Nat.reduceBEq, gt_iff_lt, ge_iff_le, Bool.and_true, Bool.true_and, Bool.false_and, Bool.and_false, String.reduceBEq, Bool.or_false, Bool.or_true, Bool.true_or, Bool.false_or, and_true, true_and, not_true_eq_false, not_false_eq_true, ne_eq, true_or, or_true, false_or, or_false, and_false, false_and, if_true, if_false, Bool.not_true, Bool.not_false, reduceCtorEq, List.cons.injEq, lit_0, lit_p, lit_m, in_3 (l := []) (by decide), in_3 (l := [43]) (by decide), in_3 (l := [45]) (by decide), opEq_S, sz3]))
  have q1 : ¬ intL b = [] := intL_ne b
  have q5 := in_3 (intL_asc b)
  have q2 : ¬ intL b = [43] := intL_43 b _
  have q3 : ¬ intL b = [45] := intL_45 b
  have q4 : ¬ (intL b).take 1 = [43] := by
    intro z
    cases w : intL b with
    | nil => exact q1 w
    | cons c f =>
      rw [w] at z
      simp at z
      subst z
      exact intL_43 b _ w
  iterate 3 (try (simp (disch := (first | assumption | (simp only [List.length_append, List.length_cons, List.length_nil]; omega) | omega)) only [Int.cast_ofNat_Int, Int.natCast_zero, Int.natCast_one, ev_compL0, ev_compL1, ev_mTurn, ev_mComp, ev_wipe0, ev_wipe1, ev_rest0, ev_rest1, ev_isOwn0, ev_isOwn1, ev_con0, ev_con1, ev_all, ev_any, ev_bools0, ev_bools1, List.all_cons, List.all_nil, List.any_cons, List.any_nil, id_eq, ev_bnd, ev_ret, ev_fail, ev_lift, ev_lift0, ev_opnd, ev_opnds, ev_slD, ev_ra, ev_rv, ev_mBin, ev_mBinO, ev_dr, ev_dz, ev_doz, ev_ode, ev_ac, ev_mB1, ev_mBO, ev_opndsL, ev_rsvs0, ev_rsvs1, ev_rsvd, ev_rsvs, ev_bindS, ev_mTrue, ev_mB, ev_mAnd, ev_mOr, ev_mNot, ev_mIf, ev_mTup, ev_mLst, ev_argsD0, ev_argsD1, ev_vals, ev_mRet, ev_sto, ev_sto2, ev_mPar2, ev_mPar3, ev_gN, ev_gTt, ev_gTl, ev_tgt0, ev_tgt1, ev_gF, ev_fzd, ev_fzo, ev_mOwn, ev_mOut, ev_mIsI, ev_mNeg, ev_opNeg, ev_mSl, ev_mSlL, ev_slcT, ev_slcL, ev_mPart, ev_mRev, ev_mStr1, ev_mChain, ev_mFun, ev_mask0, ev_mask1, ev_mk1o, ev_mk1f, ev_mk1d, ev_mk1u, ev_mCall, ev_lend0, ev_lend1, ev_lend2, ev_noS0, ev_noSd, ev_noSs, ev_back, ev_anyS0, ev_anySd, ev_anySs, ev_backF0, ev_backF1, ev_back1o, ev_back1d, ev_back1u, ev_got0, ev_gotd, ev_gots, ev_mItems, ev_itemsL, ev_itemsT, ev_mSigns, ev_mMeth, ev_chkL, ev_updO, ev_gAppend, ev_mSetIx, ev_gSet, ev_mRng, ev_rg1, ev_rg2, ev_mFor, ev_raise, ev_cI, ev_add, ev_sub, ev_abs, ev_max, ev_min, ev_inti, ev_intb, ev_lenL, ev_lenT, ev_lenS, ev_tupL, ev_tupT, ev_lstL, ev_lstT, ev_ixT, ev_ixL, ev_ixS, ev_at0, ev_at1, ev_at2, ev_at3, ev_at4, ev_at5, ev_at6, ev_at7, ev_ixN0, ev_ixN1, ev_is, ev_isnot, ev_isb, ev_isnotb, ev_addL, opEq_int, opNe_int, mSeq_def, isI, tyN, isN, opLt, opLe, opGt, opGe,
    List.getElem?_cons_zero, List.getElem?_cons_succ, List.getElem?_nil, List.set_cons_zero, List.set_cons_succ, List.length_cons, List.length_nil, List.cons_append, List.nil_append, List.replicate, List.append_nil, decide_true, decide_false, Int.reduceLT, Int.reduceLE, Int.reduceGT, Int.reduceGE, Int.reduceEq, Int.reduceNe, Int.reduceAdd, Int.reduceSub, Int.reduceMul, Int.reduceNeg, Int.reduceToNat, Int.reducePow, Nat.reduceAdd, Nat.reduceLT, Nat.reduceLeDiff, Nat.reduceEqDiff, Nat.reduceBNe, Nat.reduceBEq, gt_iff_lt, ge_iff_le, Bool.and_true, Bool.true_and, Bool.false_and, Bool.and_false, String.reduceBEq, Bool.or_false, Bool.or_true, Bool.true_or, Bool.false_or, and_true, true_and, not_true_eq_false, not_false_eq_true, ne_eq, true_or, or_true, false_or, or_false, and_false, false_and, if_true, if_false, Bool.not_true, Bool.not_false, reduceCtorEq, h1, h2, lit_0, lit_p, lit_m, q5, opEq_S, sz3, q1, q2, q3, slcS, cut_to1, q4, whole_int h]))
theorem roots_plus {b : Int} (h : b.natAbs < 10 ^ 40) (h0 : 0 < b) : d_roots_of [.d (S (43 :: stemL b))] = some (.ok (.d (.int b)) [.un]) := by
  have hl := intL_len h
  have sz3 : (3 : Nat) ≤ sizeLine := by decide
  unfold d_roots_of b_roots_of stemL
  by_cases h1 : b = 1
  · subst h1
    iterate 3 (try (simp (disch := (first | assumption | (simp only [List.length_append, List.length_cons, List.length_nil]; omega) | omega)) only [Int.cast_ofNat_Int, Int.natCast_zero, Int.natCast_one, ev_compL0, ev_compL1, ev_mTurn, ev_mComp, ev_wipe0, ev_wipe1, ev_rest0, ev_rest1, ev_isOwn0, ev_isOwn1, ev_con0, ev_con1, ev_all, ev_any, ev_bools0, ev_bools1, List.all_cons, List.all_nil, List.any_cons, List.any_nil, id_eq, ev_bnd, ev_ret, ev_fail, ev_lift, ev_lift0, ev_opnd, ev_opnds, ev_slD, ev_ra, ev_rv, ev_mBin, ev_mBinO, ev_dr, ev_dz, ev_doz, ev_ode, ev_ac, ev_mB1, ev_mBO, ev_opndsL, ev_rsvs0, ev_rsvs1, ev_rsvd, ev_rsvs, ev_bindS, ev_mTrue, ev_mB, ev_mAnd, ev_mOr, ev_mNot, ev_mIf, ev_mTup, ev_mLst, ev_argsD0, ev_argsD1, ev_vals, ev_mRet, ev_sto, ev_sto2, ev_mPar2, ev_mPar3, ev_gN, ev_gTt, ev_gTl, ev_tgt0, ev_tgt1, ev_gF, ev_fzd, ev_fzo, ev_mOwn, ev_mOut, ev_mIsI, ev_mNeg, ev_opNeg, ev_mSl, ev_mSlL, ev_slcT, ev_slcL, ev_mPart, ev_mRev, ev_mStr1, ev_mChain, ev_mFun, ev_mask0, ev_mask1, ev_mk1o, ev_mk1f, ev_mk1d, ev_mk1u, ev_mCall, ev_lend0, ev_lend1, ev_lend2, ev_noS0, ev_noSd, ev_noSs, ev_back, ev_anyS0, ev_anySd, ev_anySs, ev_backF0, ev_backF1, ev_back1o, ev_back1d, ev_back1u, ev_got0, ev_gotd, ev_gots, ev_mItems, ev_itemsL, ev_itemsT, ev_mSigns, ev_mMeth, ev_chkL, ev_updO, ev_gAppend, ev_mSetIx, ev_gSet, ev_mRng, ev_rg1, ev_rg2, ev_mFor, ev_raise, ev_cI, ev_add, ev_sub, ev_abs, ev_max, ev_min, ev_inti, ev_intb, ev_lenL, ev_lenT, ev_lenS, ev_tupL, ev_tupT, ev_lstL, ev_lstT, ev_ixT, ev_ixL, ev_ixS, ev_at0, ev_at1, ev_at2, ev_at3, ev_at4, ev_at5, ev_at6, ev_at7, ev_ixN0, ev_ixN1, ev_is, ev_isnot, ev_isb, ev_isnotb, ev_addL, opEq_int, opNe_int, mSeq_def, isI, tyN, isN, opLt, opLe, opGt, opGe,
    List.getElem?_cons_zero, List.getElem?_cons_succ, List.getElem?_nil, List.set_cons_zero, List.set_cons_succ, List.length_cons, List.length_nil, List.cons_append, List.nil_append, List.replicate, List.append_nil, decide_true, decide_false, Int.reduceLT, Int.reduceLE, Int.reduceGT, Int.reduceGE, Int.reduceEq, Int.reduceNe, Int.reduceAdd, Int.reduceSub, Int.reduceMul, Int.reduceNeg, Int.reduceToNat, Int.reducePow, Nat.reduceAdd, Nat.reduceLT, Nat.reduceLeDiff, Nat.reduceEqDiff, Nat.reduceBNe, Nat.reduceBEq, gt_iff_lt, ge_iff_le, Bool.and_true, Bool.true_and, Bool.false_and, Bool.and_false, String.reduceBEq, Bool.or_false, Bool.or_true, Bool.true_or, Bool.false_or, and_true, true_and, not_true_eq_false, not_false_eq_true, ne_eq, true_or, or_true, false_or, or_false, and_false, false_and, if_true, if_false, Bool.not_true, Bool.not_false, reduceCtorEq, List.cons.injEq, lit_0, lit_p, lit_m, in_3 (l := []) (by decide), in_3 (l := [43]) (by decide), in_3 (l := [45]) (by decide), opEq_S, sz3]))
  have h2 : ¬ b = -1 := by omega
  have q1 : ¬ 43 :: intL b = [] := by simp
  have q5 := in_3 (l := 43 :: intL b) (fun c hc => by
    rcases List.mem_cons.mp hc with rfl | hc
    · decide
    · exact intL_asc b c hc)
  have q2 : ¬ 43 :: intL b = [43] := by simp [intL_ne b]
  have q3 : ¬ 43 :: intL b = [45] := by simp
  iterate 3 (try (simp (disch := (first | assumption | (simp only [List.length_append, List.length_cons, List.length_nil]; omega) | omega)) only [Int.cast_ofNat_Int, Int.natCast_zero, Int.natCast_one, ev_compL0, ev_compL1, ev_mTurn, ev_mComp, ev_wipe0, ev_wipe1, ev_rest0, ev_rest1, ev_isOwn0, ev_isOwn1, ev_con0, ev_con1, ev_all, ev_any, ev_bools0, ev_bools1, List.all_cons, List.all_nil, List.any_cons, List.any_nil, id_eq, ev_bnd, ev_ret, ev_fail, ev_lift, ev_lift0, ev_opnd, ev_opnds, ev_slD, ev_ra, ev_rv, ev_mBin, ev_mBinO, ev_dr, ev_dz, ev_doz, ev_ode, ev_ac, ev_mB1, ev_mBO, ev_opndsL, ev_rsvs0, ev_rsvs1, ev_rsvd, ev_rsvs, ev_bindS, ev_mTrue, ev_mB, ev_mAnd, ev_mOr, ev_mNot, ev_mIf, ev_mTup, ev_mLst, ev_argsD0, ev_argsD1, ev_vals, ev_mRet, ev_sto, ev_sto2, ev_mPar2, ev_mPar3, ev_gN, ev_gTt, ev_gTl, ev_tgt0, ev_tgt1, ev_gF, ev_fzd, ev_fzo, ev_mOwn, ev_mOut, ev_mIsI, ev_mNeg, ev_opNeg, ev_mSl, ev_mSlL, ev_slcT, ev_slcL, ev_mPart, ev_mRev, ev_mStr1, ev_mChain, ev_mFun, ev_mask0, ev_mask1, ev_mk1o, ev_mk1f, ev_mk1d, ev_mk1u, ev_mCall, ev_lend0, ev_lend1, ev_lend2, ev_noS0, ev_noSd, ev_noSs, ev_back, ev_anyS0, ev_anySd, ev_anySs, ev_backF0, ev_backF1, ev_back1o, ev_back1d, ev_back1u, ev_got0, ev_gotd, ev_gots, ev_mItems, ev_itemsL, ev_itemsT, ev_mSigns, ev_mMeth, ev_chkL, ev_updO, ev_gAppend, ev_mSetIx, ev_gSet, ev_mRng, ev_rg1, ev_rg2, ev_mFor, ev_raise, ev_cI, ev_add, ev_sub, ev_abs, ev_max, ev_min, ev_inti, ev_intb, ev_lenL, ev_lenT, ev_lenS, ev_tupL, ev_tupT, ev_lstL, ev_lstT, ev_ixT, ev_ixL, ev_ixS, ev_at0, ev_at1, ev_at2, ev_at3, ev_at4, ev_at5, ev_at6, ev_at7, ev_ixN0, ev_ixN1, ev_is, ev_isnot, ev_isb, ev_isnotb, ev_addL, opEq_int, opNe_int, mSeq_def, isI, tyN, isN, opLt, opLe, opGt, opGe,
    List.getElem?_cons_zero, List.getElem?_cons_succ, List.getElem?_nil, List.set_cons_zero, List.set_cons_succ, List.length_cons, List.length_nil, List.cons_append, List.nil_append, List.replicate, List.append_nil, decide_true, decide_false, Int.reduceLT, Int.reduceLE, Int.reduceGT, Int.reduceGE, Int.reduceEq, Int.reduceNe, Int.reduceAdd, Int.reduceSub, Int.reduceMul, Int.reduceNeg, Int.reduceToNat, Int.reducePow, Nat.reduceAdd, Nat.reduceLT, Nat.reduceLeDiff, Nat.reduceEqDiff, Nat.reduceBNe, Nat.reduceBEq, gt_iff_lt, ge_iff_le, Bool.and_true, Bool.true_and, Bool.false_and, Bool.and_false, String.reduceBEq, Bool.or_false, Bool.or_true, Bool.true_or, Bool.false_or, and_true, true_and, not_true_eq_false, not_false_eq_true, ne_eq, true_or, or_true, false_or, or_false, and_false, false_and, if_true, if_false, Bool.not_true, Bool.not_false, reduceCtorEq, h1, h2, lit_0, lit_p, lit_m, q5, opEq_S, sz3, q1, q2, q3, slcS, cut_to1, cut_from1, List.take_succ_cons, List.take_zero, List.drop_succ_cons, List.drop_zero, whole_int h]))
theorem roots_sign {b : Int} (h : b.natAbs < 10 ^ 40) : d_roots_of [.d (S (signL b ++ stemL b))] = some (.ok (.d (.int b)) [.un]) := by
  unfold signL
  by_cases h0 : 0 < b
  · rw [if_pos h0]; exact roots_plus h h0
  · rw [if_neg h0]; exact roots_stem h

/-! ### a number's top -/
theorem intL_sgn (i : Int) : ∀ c ∈ intL i, c = 45 ∨ (48 ≤ c ∧ c ≤ 57) := by
  intro c hc
  by_cases q : i < 0
  · rw [intL_neg q] at hc
    rcases List.mem_cons.mp hc with rfl | hc
    · exact .inl rfl
    · exact .inr (numL_digits _ c hc)
  · rw [intL_pos q] at hc
    exact .inr (numL_digits _ c hc)
theorem stemL_sgn (i : Int) : ∀ c ∈ stemL i, c = 45 ∨ (48 ≤ c ∧ c ≤ 57) := by
  intro c hc
  unfold stemL at hc
  split at hc
  · cases hc
  · split at hc
    · exact .inl (List.mem_singleton.mp hc)
    · exact intL_sgn i c hc
theorem stemL_neg {b : Int} (h : b < 0) : ∃ r, stemL b = 45 :: r ∧ 45 ∉ r ∧ 43 ∉ r := by
  unfold stemL
  rw [if_neg (by omega)]
  by_cases q : b = -1
  · rw [if_pos q]; exact ⟨[], rfl, by simp, by simp⟩
  · rw [if_neg q, intL_neg h]
    exact ⟨_, rfl, numL_free (by decide), numL_free (by decide)⟩
theorem stemL_pos {b : Int} (h : 0 < b) : 45 ∉ stemL b := by
  unfold stemL
  split
  · simp
  · rw [if_neg (by omega), intL_pos (by omega)]
    exact numL_free (by decide)
theorem cut_last_app (T : List Nat) (c : Nat) : cutL (T ++ [c]) (some (-1)) none = [c] := by
  rw [cut_last]; simp
theorem cut_init_app (T : List Nat) (c : Nat) : cutL (T ++ [c]) none (some (-1)) = T := by
  rw [cut_init]; simp
theorem cut_to_app (T U : List Nat) : cutL (T ++ U) none (some (T.length : Int)) = T := by
  rw [cut_to]; simp
theorem cut_mid_app (T U : List Nat) (c : Nat) : cutL (T ++ U ++ [c]) (some (T.length : Int)) (some (-1)) = U := by
  rw [cut_mid, show (T ++ U ++ [c]).length - 1 = (T ++ U).length by simp, List.take_left, List.drop_left]
theorem cut_to_app3 (T U : List Nat) (c : Nat) : cutL (T ++ U ++ [c]) none (some (T.length : Int)) = T := by
  rw [List.append_assoc, cut_to_app]
theorem topL_root {a b : Int} (hb : b ≠ 0) (ha : a = 0) : topL a b = stemL b ++ [114] := by
  unfold topL
  rw [if_neg hb, if_pos ha, rootL_eq]
theorem topL_mid {a b : Int} (hb : b ≠ 0) (ha : a ≠ 0) : topL a b = intL a ++ (signL b ++ stemL b) ++ [114] := by
  unfold topL
  rw [if_neg hb, if_neg ha, midL_eq]
theorem signL_len (b : Int) : (signL b).length ≤ 1 := by unfold signL; split <;> decide
theorem nomem {l : List Nat} {x : Nat} (h : ∀ c ∈ l, c = 45 ∨ (48 ≤ c ∧ c ≤ 57)) (hx : x ≠ 45 ∧ (x < 48 ∨ 57 < x)) : x ∉ l := fun q => by
  have := h x q
  omega
theorem top_ok {a b : Int} (ha : a.natAbs < 10 ^ 40) (hb : b.natAbs < 10 ^ 40) : d_top_of [.d (S (topL a b))] = some (.ok (.d (.tuple [.int a, .int b])) [.un]) := by
  have la := intL_len ha
  have ls := stemL_len hb
  have lg := signL_len b
  have sz2 : (2 : Nat) ≤ sizeLine := by decide
  by_cases hb0 : b = 0
  · subst hb0
    have e : topL a 0 = intL a := rfl
    have hd : ¬ cutL (intL a) (some (-1)) none = [114] := by
      rw [cut_last]
      intro q
      have : 114 ∈ (intL a).drop ((intL a).length - 1) := by rw [q]; simp
      have := intL_sgn a _ (List.mem_of_mem_drop this)
      omega
    rw [e]
    unfold d_top_of b_top_of
    iterate 3 (try (simp (disch := (first | assumption | (simp only [List.length_append, List.length_cons, List.length_nil]; omega) | omega)) only [Int.cast_ofNat_Int, Int.natCast_zero, Int.natCast_one, ev_compL0, ev_compL1, ev_mTurn, ev_mComp, ev_wipe0, ev_wipe1, ev_rest0, ev_rest1, ev_isOwn0, ev_isOwn1, ev_con0, ev_con1, ev_all, ev_any, ev_bools0, ev_bools1, List.all_cons, List.all_nil, List.any_cons, List.any_nil, id_eq, ev_bnd, ev_ret, ev_fail, ev_lift, ev_lift0, ev_opnd, ev_opnds, ev_slD, ev_ra, ev_rv, ev_mBin, ev_mBinO, ev_dr, ev_dz, ev_doz, ev_ode, ev_ac, ev_mB1, ev_mBO, ev_opndsL, ev_rsvs0, ev_rsvs1, ev_rsvd, ev_rsvs, ev_bindS, ev_mTrue, ev_mB, ev_mAnd, ev_mOr, ev_mNot, ev_mIf, ev_mTup, ev_mLst, ev_argsD0, ev_argsD1, ev_vals, ev_mRet, ev_sto, ev_sto2, ev_mPar2, ev_mPar3, ev_gN, ev_gTt, ev_gTl, ev_tgt0, ev_tgt1, ev_gF, ev_fzd, ev_fzo, ev_mOwn, ev_mOut, ev_mIsI, ev_mNeg, ev_opNeg, ev_mSl, ev_mSlL, ev_slcT, ev_slcL, ev_mPart, ev_mRev, ev_mStr1, ev_mChain, ev_mFun, ev_mask0, ev_mask1, ev_mk1o, ev_mk1f, ev_mk1d, ev_mk1u, ev_mCall, ev_lend0, ev_lend1, ev_lend2, ev_noS0, ev_noSd, ev_noSs, ev_back, ev_anyS0, ev_anySd, ev_anySs, ev_backF0, ev_backF1, ev_back1o, ev_back1d, ev_back1u, ev_got0, ev_gotd, ev_gots, ev_mItems, ev_itemsL, ev_itemsT, ev_mSigns, ev_mMeth, ev_chkL, ev_updO, ev_gAppend, ev_mSetIx, ev_gSet, ev_mRng, ev_rg1, ev_rg2, ev_mFor, ev_raise, ev_cI, ev_add, ev_sub, ev_abs, ev_max, ev_min, ev_inti, ev_intb, ev_lenL, ev_lenT, ev_lenS, ev_tupL, ev_tupT, ev_lstL, ev_lstT, ev_ixT, ev_ixL, ev_ixS, ev_at0, ev_at1, ev_at2, ev_at3, ev_at4, ev_at5, ev_at6, ev_at7, ev_ixN0, ev_ixN1, ev_is, ev_isnot, ev_isb, ev_isnotb, ev_addL, opEq_int, opNe_int, mSeq_def, isI, tyN, isN, opLt, opLe, opGt, opGe,
    List.getElem?_cons_zero, List.getElem?_cons_succ, List.getElem?_nil, List.set_cons_zero, List.set_cons_succ, List.length_cons, List.length_nil, List.cons_append, List.nil_append, List.replicate, List.append_nil, decide_true, decide_false, Int.reduceLT, Int.reduceLE, Int.reduceGT, Int.reduceGE, Int.reduceEq, Int.reduceNe, Int.reduceAdd, Int.reduceSub, Int.reduceMul, Int.reduceNeg, Int.reduceToNat, Int.reducePow, Nat.reduceAdd, Nat.reduceLT, Nat.reduceLeDiff, Nat.reduceEqDiff, Nat.reduceBNe, Nat.reduceBEq, gt_iff_lt, ge_iff_le, Bool.and_true, Bool.true_and, Bool.false_and, Bool.and_false, String.reduceBEq, Bool.or_false, Bool.or_true, Bool.true_or, Bool.false_or, and_true, true_and, not_true_eq_false, not_false_eq_true, ne_eq, true_or, or_true, false_or, or_false, and_false, false_and, if_true, if_false, Bool.not_true, Bool.not_false, reduceCtorEq, lit_r, slcS, opNe_S, hd, whole_int ha, sz2]))
  by_cases ha0 : a = 0
  · rw [topL_root hb0 ha0]
    have f1 : Txt.rfind (mkS (stemL b ++ [114])) (mkS [43]) = -1 := rfind_no (by
      intro q
      rcases List.mem_append.mp q with q | q
      · exact nomem (stemL_sgn b) (by decide) q
      · simp at q)
    obtain ⟨p, f2, hp⟩ : ∃ p : Int, Txt.rfind (mkS (stemL b ++ [114])) (mkS [45]) = p ∧ p < 1 := by
      by_cases h : b < 0
      · obtain ⟨r, e, h1, _⟩ := stemL_neg h
        refine ⟨0, ?_, by decide⟩
        rw [e]
        exact rfind_at (i := 0) rfl (by simp [h1])
      · refine ⟨-1, rfind_no ?_, by decide⟩
        intro q
        rcases List.mem_append.mp q with q | q
        · exact stemL_pos (by omega) q
        · simp at q
    have hm : ¬ (1 : Int) ≤ (if -1 < p then p else -1) := by split <;> omega
    have hm : (if -1 < p then p else -1) < (1 : Int) := by split <;> omega
    unfold d_top_of b_top_of
    iterate 3 (try (simp (disch := (first | assumption | (simp only [List.length_append, List.length_cons, List.length_nil]; omega) | omega)) only [Int.cast_ofNat_Int, Int.natCast_zero, Int.natCast_one, ev_compL0, ev_compL1, ev_mTurn, ev_mComp, ev_wipe0, ev_wipe1, ev_rest0, ev_rest1, ev_isOwn0, ev_isOwn1, ev_con0, ev_con1, ev_all, ev_any, ev_bools0, ev_bools1, List.all_cons, List.all_nil, List.any_cons, List.any_nil, id_eq, ev_bnd, ev_ret, ev_fail, ev_lift, ev_lift0, ev_opnd, ev_opnds, ev_slD, ev_ra, ev_rv, ev_mBin, ev_mBinO, ev_dr, ev_dz, ev_doz, ev_ode, ev_ac, ev_mB1, ev_mBO, ev_opndsL, ev_rsvs0, ev_rsvs1, ev_rsvd, ev_rsvs, ev_bindS, ev_mTrue, ev_mB, ev_mAnd, ev_mOr, ev_mNot, ev_mIf, ev_mTup, ev_mLst, ev_argsD0, ev_argsD1, ev_vals, ev_mRet, ev_sto, ev_sto2, ev_mPar2, ev_mPar3, ev_gN, ev_gTt, ev_gTl, ev_tgt0, ev_tgt1, ev_gF, ev_fzd, ev_fzo, ev_mOwn, ev_mOut, ev_mIsI, ev_mNeg, ev_opNeg, ev_mSl, ev_mSlL, ev_slcT, ev_slcL, ev_mPart, ev_mRev, ev_mStr1, ev_mChain, ev_mFun, ev_mask0, ev_mask1, ev_mk1o, ev_mk1f, ev_mk1d, ev_mk1u, ev_mCall, ev_lend0, ev_lend1, ev_lend2, ev_noS0, ev_noSd, ev_noSs, ev_back, ev_anyS0, ev_anySd, ev_anySs, ev_backF0, ev_backF1, ev_back1o, ev_back1d, ev_back1u, ev_got0, ev_gotd, ev_gots, ev_mItems, ev_itemsL, ev_itemsT, ev_mSigns, ev_mMeth, ev_chkL, ev_updO, ev_gAppend, ev_mSetIx, ev_gSet, ev_mRng, ev_rg1, ev_rg2, ev_mFor, ev_raise, ev_cI, ev_add, ev_sub, ev_abs, ev_max, ev_min, ev_inti, ev_intb, ev_lenL, ev_lenT, ev_lenS, ev_tupL, ev_tupT, ev_lstL, ev_lstT, ev_ixT, ev_ixL, ev_ixS, ev_at0, ev_at1, ev_at2, ev_at3, ev_at4, ev_at5, ev_at6, ev_at7, ev_ixN0, ev_ixN1, ev_is, ev_isnot, ev_isb, ev_isnotb, ev_addL, opEq_int, opNe_int, mSeq_def, isI, tyN, isN, opLt, opLe, opGt, opGe,
    List.getElem?_cons_zero, List.getElem?_cons_succ, List.getElem?_nil, List.set_cons_zero, List.set_cons_succ, List.length_cons, List.length_nil, List.cons_append, List.nil_append, List.replicate, List.append_nil, decide_true, decide_false, Int.reduceLT, Int.reduceLE, Int.reduceGT, Int.reduceGE, Int.reduceEq, Int.reduceNe, Int.reduceAdd, Int.reduceSub, Int.reduceMul, Int.reduceNeg, Int.reduceToNat, Int.reducePow, Nat.reduceAdd, Nat.reduceLT, Nat.reduceLeDiff, Nat.reduceEqDiff, Nat.reduceBNe, Nat.reduceBEq, gt_iff_lt, ge_iff_le, Bool.and_true, Bool.true_and, Bool.false_and, Bool.and_false, String.reduceBEq, Bool.or_false, Bool.or_true, Bool.true_or, Bool.false_or, and_true, true_and, not_true_eq_false, not_false_eq_true, ne_eq, true_or, or_true, false_or, or_false, and_false, false_and, if_true, if_false, Bool.not_true, Bool.not_false, reduceCtorEq, lit_r, slcS, cut_last_app, cut_init_app, opNe_S, lit_p, lit_m, sRfind_eq, f1, f2, hm, roots_stem hb, sz2]))
    rw [ha0]
  · rw [topL_mid hb0 ha0]
    have hn : 1 ≤ (intL a).length := by
      have := intL_ne a
      cases w : intL a with
      | nil => exact absurd w this
      | cons c f => simp
    obtain ⟨p, q, f1, f2, hm⟩ : ∃ p q : Int, Txt.rfind (mkS (intL a ++ (signL b ++ stemL b) ++ [114])) (mkS [43]) = p ∧ Txt.rfind (mkS (intL a ++ (signL b ++ stemL b) ++ [114])) (mkS [45]) = q ∧ (if p < q then q else p) = ((intL a).length : Int) := by
      by_cases h : 0 < b
      · have es : signL b = [43] := if_pos h
        rw [es]
        have f1 : Txt.rfind (mkS (intL a ++ ([43] ++ stemL b) ++ [114])) (mkS [43]) = ((intL a).length : Int) := rfind_at (by simp) (by
          simp
          exact nomem (stemL_sgn b) (by decide))
        by_cases h2 : a < 0
        · refine ⟨_, 0, f1, ?_, by rw [if_neg (by omega)]⟩
          rw [intL_neg h2]
          refine rfind_at (i := 0) rfl ?_
          simp
          exact ⟨numL_free (by decide), stemL_pos h⟩
        · refine ⟨_, -1, f1, ?_, by rw [if_neg (by omega)]⟩
          rw [intL_pos h2]
          refine rfind_no ?_
          simp
          exact ⟨numL_free (by decide), stemL_pos h⟩
      · have es : signL b = [] := if_neg h
        obtain ⟨r, e, h1, h2⟩ := stemL_neg (show b < 0 by omega)
        rw [es, e]
        refine ⟨-1, (intL a).length, rfind_no ?_, rfind_at (by simp) (by simp; exact h1), by rw [if_pos (by omega)]⟩
        simp
        exact ⟨nomem (intL_sgn a) (by decide), h2⟩
    have hp : ¬ ((intL a).length : Int) < 1 := by omega
    unfold d_top_of b_top_of
    iterate 3 (try (simp (disch := (first | assumption | (simp only [List.length_append, List.length_cons, List.length_nil]; omega) | omega)) only [Int.cast_ofNat_Int, Int.natCast_zero, Int.natCast_one, ev_compL0, ev_compL1, ev_mTurn, ev_mComp, ev_wipe0, ev_wipe1, ev_rest0, ev_rest1, ev_isOwn0, ev_isOwn1, ev_con0, ev_con1, ev_all, ev_any, ev_bools0, ev_bools1, List.all_cons, List.all_nil, List.any_cons, List.any_nil, id_eq, ev_bnd, ev_ret, ev_fail, ev_lift, ev_lift0, ev_opnd, ev_opnds, ev_slD, ev_ra, ev_rv, ev_mBin, ev_mBinO, ev_dr, ev_dz, ev_doz, ev_ode, ev_ac, ev_mB1, ev_mBO, ev_opndsL, ev_rsvs0, ev_rsvs1, ev_rsvd, ev_rsvs, ev_bindS, ev_mTrue, ev_mB, ev_mAnd, ev_mOr, ev_mNot, ev_mIf, ev_mTup, ev_mLst, ev_argsD0, ev_argsD1, ev_vals, ev_mRet, ev_sto, ev_sto2, ev_mPar2, ev_mPar3, ev_gN, ev_gTt, ev_gTl, ev_tgt0, ev_tgt1, ev_gF, ev_fzd, ev_fzo, ev_mOwn, ev_mOut, ev_mIsI, ev_mNeg, ev_opNeg, ev_mSl, ev_mSlL, ev_slcT, ev_slcL, ev_mPart, ev_mRev, ev_mStr1, ev_mChain, ev_mFun, ev_mask0, ev_mask1, ev_mk1o, ev_mk1f, ev_mk1d, ev_mk1u, ev_mCall, ev_lend0, ev_lend1, ev_lend2, ev_noS0, ev_noSd, ev_noSs, ev_back, ev_anyS0, ev_anySd, ev_anySs, ev_backF0, ev_backF1, ev_back1o, ev_back1d, ev_back1u, ev_got0, ev_gotd, ev_gots, ev_mItems, ev_itemsL, ev_itemsT, ev_mSigns, ev_mMeth, ev_chkL, ev_updO, ev_gAppend, ev_mSetIx, ev_gSet, ev_mRng, ev_rg1, ev_rg2, ev_mFor, ev_raise, ev_cI, ev_add, ev_sub, ev_abs, ev_max, ev_min, ev_inti, ev_intb, ev_lenL, ev_lenT, ev_lenS, ev_tupL, ev_tupT, ev_lstL, ev_lstT, ev_ixT, ev_ixL, ev_ixS, ev_at0, ev_at1, ev_at2, ev_at3, ev_at4, ev_at5, ev_at6, ev_at7, ev_ixN0, ev_ixN1, ev_is, ev_isnot, ev_isb, ev_isnotb, ev_addL, opEq_int, opNe_int, mSeq_def, isI, tyN, isN, opLt, opLe, opGt, opGe,
    List.getElem?_cons_zero, List.getElem?_cons_succ, List.getElem?_nil, List.set_cons_zero, List.set_cons_succ, List.length_cons, List.length_nil, List.cons_append, List.nil_append, List.replicate, List.append_nil, decide_true, decide_false, Int.reduceLT, Int.reduceLE, Int.reduceGT, Int.reduceGE, Int.reduceEq, Int.reduceNe, Int.reduceAdd, Int.reduceSub, Int.reduceMul, Int.reduceNeg, Int.reduceToNat, Int.reducePow, Nat.reduceAdd, Nat.reduceLT, Nat.reduceLeDiff, Nat.reduceEqDiff, Nat.reduceBNe, Nat.reduceBEq, gt_iff_lt, ge_iff_le, Bool.and_true, Bool.true_and, Bool.false_and, Bool.and_false, String.reduceBEq, Bool.or_false, Bool.or_true, Bool.true_or, Bool.false_or, and_true, true_and, not_true_eq_false, not_false_eq_true, ne_eq, true_or, or_true, false_or, or_false, and_false, false_and, if_true, if_false, Bool.not_true, Bool.not_false, reduceCtorEq, lit_r, slcS, cut_last_app, opNe_S, lit_p, lit_m, sRfind_eq, f1, f2, hm, hp, cut_to_app3, cut_mid_app, whole_int ha, roots_sign hb, sz2]))

/-! ### a number in its text -/
def aheadL (x : Int × Int × Int) : List Nat := if x.2.1 = 0 ∨ x.1 = 0 ∨ x.2.2 = 1 then topL x.1 x.2.1 else 40 :: (midL x.1 x.2.1 ++ [41])
theorem showL_eq (x : Int × Int × Int) : showL x = aheadL x ++ endL x.2.2 := by
  unfold showL aheadL
  split
  · rfl
  · rfl
theorem midL_sgn (a b : Int) : ∀ c ∈ midL a b, c = 43 ∨ c = 45 ∨ (48 ≤ c ∧ c ≤ 57) ∨ c = 114 := by
  intro c hc
  rw [midL_eq] at hc
  rcases List.mem_append.mp hc with hc | hc
  · rcases List.mem_append.mp hc with hc | hc
    · have := intL_sgn a c hc; omega
    · rcases List.mem_append.mp hc with hc | hc
      · unfold signL at hc
        split at hc
        · exact .inl (List.mem_singleton.mp hc)
        · cases hc
      · have := stemL_sgn b c hc; omega
  · have := List.mem_singleton.mp hc; omega
theorem topL_sgn (a b : Int) : ∀ c ∈ topL a b, c = 43 ∨ c = 45 ∨ (48 ≤ c ∧ c ≤ 57) ∨ c = 114 := by
  intro c hc
  unfold topL at hc
  split at hc
  · have := intL_sgn a c hc; omega
  · split at hc
    · rw [rootL_eq] at hc
      rcases List.mem_append.mp hc with hc | hc
      · have := stemL_sgn b c hc; omega
      · have := List.mem_singleton.mp hc; omega
    · exact midL_sgn a b c hc
theorem aheadL_no (x : Int × Int × Int) : 47 ∉ aheadL x := by
  intro h
  unfold aheadL at h
  split at h
  · have := topL_sgn _ _ _ h; omega
  · rcases List.mem_cons.mp h with h | h
    · omega
    · rcases List.mem_append.mp h with h | h
      · have := midL_sgn _ _ _ h; omega
      · have := List.mem_singleton.mp h; omega
theorem topL_len {a b : Int} (ha : a.natAbs < 10 ^ 40) (hb : b.natAbs < 10 ^ 40) : (topL a b).length ≤ 84 := by
  have h1 := intL_len ha
  have h2 := rootL_len hb
  have h3 := midL_len ha hb
  unfold topL
  split
  · omega
  · split <;> omega
theorem aheadL_len {x : Int × Int × Int} (ha : x.1.natAbs < 10 ^ 40) (hb : x.2.1.natAbs < 10 ^ 40) : (aheadL x).length ≤ 86 := by
  have h1 := topL_len ha hb
  have h3 := midL_len ha hb
  unfold aheadL
  split
  · omega
  · rw [List.length_cons, List.length_append, List.length_singleton]; omega
theorem number_in_ok {x : Int × Int × Int} (h : NB x) : d_number_in [.d (S (showL x))] = some (.ok (.d (num x)) [.un]) := by
  obtain ⟨hN, ha, hb, hc⟩ := h
  obtain ⟨a, b, c⟩ := x
  have ha : a.natAbs < 10 ^ 40 := ha
  have hb : b.natAbs < 10 ^ 40 := hb
  have hc0 : 0 < c := hN.1
  have hc : c.natAbs < 10 ^ 40 := by have : c < 10 ^ 40 := hc; omega
  have l1 := aheadL_len (x := (a, b, c)) ha hb
  have l2 := endL_len hc
  have l3 := topL_len ha hb
  have l4 := midL_len ha hb
  have sz3 : (3 : Nat) ≤ sizeLine := by decide
  have hN' := is_number_ok hN
  unfold num at hN'
  rw [showL_eq]
  have hlen : (aheadL (a, b, c) ++ endL c).length ≤ sizeLine := size_le (by rw [List.length_append]; omega)
  -- the cut at the stroke
  obtain ⟨st, be, hp, hst⟩ : ∃ st be : List Nat, sPartition (mkS (aheadL (a, b, c) ++ endL c)) (S [47]) = some (.tuple [S (aheadL (a, b, c)), S st, S be]) ∧ ((c = 1 ∧ st = []) ∨ (c ≠ 1 ∧ st = [47] ∧ be = intL c)) := by
    by_cases h1 : c = 1
    · refine ⟨[], [], ?_, .inl ⟨h1, rfl⟩⟩
      have e : endL c = [] := if_pos h1
      rw [e, List.append_nil] at hlen ⊢
      rw [sPart_eq (part_no (aheadL_no _)) hlen]
    · refine ⟨[47], intL c, ?_, .inr ⟨h1, rfl, rfl⟩⟩
      have e : endL c = 47 :: intL c := if_neg h1
      rw [e] at hlen ⊢
      rw [sPart_eq (part_app (aheadL_no _)) hlen]
  have hcut : (mIf (mAnd (mTrue (mBin opEq (dr (mSl (ra 2) (DL.ret none) (mPart (DL.ret (.int 1))))) (dr (DL.ret (.str "("))))) (mTrue (mBin opEq (dr (mSl (ra 2) (mPart (mNeg (dr (DL.ret (.int 1))))) (DL.ret none))) (dr (DL.ret (.str ")")))))) (bnd (mSl (ra 2) (mPart (DL.ret (.int 1))) (mPart (mNeg (dr (DL.ret (.int 1)))))) fun x => sto 2 (.d x)) (DL.ret .nx)) [.d (S (aheadL (a, b, c) ++ endL c)), .un, .d (S (aheadL (a, b, c))), .d (S st), .d (S be), .un, .un] = some (.ok .nx [.d (S (aheadL (a, b, c) ++ endL c)), .un, .d (S (topL a b)), .d (S st), .d (S be), .un, .un]) := by
    by_cases q : b = 0 ∨ a = 0 ∨ c = 1
    · have e : aheadL (a, b, c) = topL a b := if_pos q
      rw [e]
      have : ¬ (topL a b).take 1 = [40] := by
        intro z
        have hm : 40 ∈ (topL a b).take 1 := by rw [z]; simp
        have := topL_sgn a b _ (List.mem_of_mem_take hm)
        omega
      iterate 3 (try (simp (disch := (first | assumption | (simp only [List.length_append, List.length_cons, List.length_nil]; omega) | omega)) only [Int.cast_ofNat_Int, Int.natCast_zero, Int.natCast_one, ev_compL0, ev_compL1, ev_mTurn, ev_mComp, ev_wipe0, ev_wipe1, ev_rest0, ev_rest1, ev_isOwn0, ev_isOwn1, ev_con0, ev_con1, ev_all, ev_any, ev_bools0, ev_bools1, List.all_cons, List.all_nil, List.any_cons, List.any_nil, id_eq, ev_bnd, ev_ret, ev_fail, ev_lift, ev_lift0, ev_opnd, ev_opnds, ev_slD, ev_ra, ev_rv, ev_mBin, ev_mBinO, ev_dr, ev_dz, ev_doz, ev_ode, ev_ac, ev_mB1, ev_mBO, ev_opndsL, ev_rsvs0, ev_rsvs1, ev_rsvd, ev_rsvs, ev_bindS, ev_mTrue, ev_mB, ev_mAnd, ev_mOr, ev_mNot, ev_mIf, ev_mTup, ev_mLst, ev_argsD0, ev_argsD1, ev_vals, ev_mRet, ev_sto, ev_sto2, ev_mPar2, ev_mPar3, ev_gN, ev_gTt, ev_gTl, ev_tgt0, ev_tgt1, ev_gF, ev_fzd, ev_fzo, ev_mOwn, ev_mOut, ev_mIsI, ev_mNeg, ev_opNeg, ev_mSl, ev_mSlL, ev_slcT, ev_slcL, ev_mPart, ev_mRev, ev_mStr1, ev_mChain, ev_mFun, ev_mask0, ev_mask1, ev_mk1o, ev_mk1f, ev_mk1d, ev_mk1u, ev_mCall, ev_lend0, ev_lend1, ev_lend2, ev_noS0, ev_noSd, ev_noSs, ev_back, ev_anyS0, ev_anySd, ev_anySs, ev_backF0, ev_backF1, ev_back1o, ev_back1d, ev_back1u, ev_got0, ev_gotd, ev_gots, ev_mItems, ev_itemsL, ev_itemsT, ev_mSigns, ev_mMeth, ev_chkL, ev_updO, ev_gAppend, ev_mSetIx, ev_gSet, ev_mRng, ev_rg1, ev_rg2, ev_mFor, ev_raise, ev_cI, ev_add, ev_sub, ev_abs, ev_max, ev_min, ev_inti, ev_intb, ev_lenL, ev_lenT, ev_lenS, ev_tupL, ev_tupT, ev_lstL, ev_lstT, ev_ixT, ev_ixL, ev_ixS, ev_at0, ev_at1, ev_at2, ev_at3, ev_at4, ev_at5, ev_at6, ev_at7, ev_ixN0, ev_ixN1, ev_is, ev_isnot, ev_isb, ev_isnotb, ev_addL, opEq_int, opNe_int, mSeq_def, isI, tyN, isN, opLt, opLe, opGt, opGe,
    List.getElem?_cons_zero, List.getElem?_cons_succ, List.getElem?_nil, List.set_cons_zero, List.set_cons_succ, List.length_cons, List.length_nil, List.cons_append, List.nil_append, List.replicate, List.append_nil, decide_true, decide_false, Int.reduceLT, Int.reduceLE, Int.reduceGT, Int.reduceGE, Int.reduceEq, Int.reduceNe, Int.reduceAdd, Int.reduceSub, Int.reduceMul, Int.reduceNeg, Int.reduceToNat, Int.reducePow, Nat.reduceAdd, Nat.reduceLT, Nat.reduceLeDiff, Nat.reduceEqDiff, Nat.reduceBNe, Nat.reduceBEq, gt_iff_lt, ge_iff_le, Bool.and_true, Bool.true_and, Bool.false_and, Bool.and_false, String.reduceBEq, Bool.or_false, Bool.or_true, Bool.true_or, Bool.false_or, and_true, true_and, not_true_eq_false, not_false_eq_true, ne_eq, true_or, or_true, false_or, or_false, and_false, false_and, if_true, if_false, Bool.not_true, Bool.not_false, reduceCtorEq, slcS, cut_to1, lit_o, lit_c, opEq_S, this]))
    · have e : aheadL (a, b, c) = 40 :: (midL a b ++ [41]) := if_neg q
      have e2 : topL a b = midL a b := by unfold topL; rw [if_neg (by omega), if_neg (by omega)]
      rw [e, e2]
      have c1 : cutL (40 :: (midL a b ++ [41])) none (some 1) = [40] := by rw [cut_to1]; rfl
      have c2 : cutL (40 :: (midL a b ++ [41])) (some (-1)) none = [41] := cut_last_app (40 :: midL a b) 41
      have c3 : cutL (40 :: (midL a b ++ [41])) (some 1) (some (-1)) = midL a b := by rw [cut_mid1]; simp
      iterate 3 (try (simp (disch := (first | assumption | (simp only [List.length_append, List.length_cons, List.length_nil]; omega) | omega)) only [Int.cast_ofNat_Int, Int.natCast_zero, Int.natCast_one, ev_compL0, ev_compL1, ev_mTurn, ev_mComp, ev_wipe0, ev_wipe1, ev_rest0, ev_rest1, ev_isOwn0, ev_isOwn1, ev_con0, ev_con1, ev_all, ev_any, ev_bools0, ev_bools1, List.all_cons, List.all_nil, List.any_cons, List.any_nil, id_eq, ev_bnd, ev_ret, ev_fail, ev_lift, ev_lift0, ev_opnd, ev_opnds, ev_slD, ev_ra, ev_rv, ev_mBin, ev_mBinO, ev_dr, ev_dz, ev_doz, ev_ode, ev_ac, ev_mB1, ev_mBO, ev_opndsL, ev_rsvs0, ev_rsvs1, ev_rsvd, ev_rsvs, ev_bindS, ev_mTrue, ev_mB, ev_mAnd, ev_mOr, ev_mNot, ev_mIf, ev_mTup, ev_mLst, ev_argsD0, ev_argsD1, ev_vals, ev_mRet, ev_sto, ev_sto2, ev_mPar2, ev_mPar3, ev_gN, ev_gTt, ev_gTl, ev_tgt0, ev_tgt1, ev_gF, ev_fzd, ev_fzo, ev_mOwn, ev_mOut, ev_mIsI, ev_mNeg, ev_opNeg, ev_mSl, ev_mSlL, ev_slcT, ev_slcL, ev_mPart, ev_mRev, ev_mStr1, ev_mChain, ev_mFun, ev_mask0, ev_mask1, ev_mk1o, ev_mk1f, ev_mk1d, ev_mk1u, ev_mCall, ev_lend0, ev_lend1, ev_lend2, ev_noS0, ev_noSd, ev_noSs, ev_back, ev_anyS0, ev_anySd, ev_anySs, ev_backF0, ev_backF1, ev_back1o, ev_back1d, ev_back1u, ev_got0, ev_gotd, ev_gots, ev_mItems, ev_itemsL, ev_itemsT, ev_mSigns, ev_mMeth, ev_chkL, ev_updO, ev_gAppend, ev_mSetIx, ev_gSet, ev_mRng, ev_rg1, ev_rg2, ev_mFor, ev_raise, ev_cI, ev_add, ev_sub, ev_abs, ev_max, ev_min, ev_inti, ev_intb, ev_lenL, ev_lenT, ev_lenS, ev_tupL, ev_tupT, ev_lstL, ev_lstT, ev_ixT, ev_ixL, ev_ixS, ev_at0, ev_at1, ev_at2, ev_at3, ev_at4, ev_at5, ev_at6, ev_at7, ev_ixN0, ev_ixN1, ev_is, ev_isnot, ev_isb, ev_isnotb, ev_addL, opEq_int, opNe_int, mSeq_def, isI, tyN, isN, opLt, opLe, opGt, opGe,
    List.getElem?_cons_zero, List.getElem?_cons_succ, List.getElem?_nil, List.set_cons_zero, List.set_cons_succ, List.length_cons, List.length_nil, List.cons_append, List.nil_append, List.replicate, List.append_nil, decide_true, decide_false, Int.reduceLT, Int.reduceLE, Int.reduceGT, Int.reduceGE, Int.reduceEq, Int.reduceNe, Int.reduceAdd, Int.reduceSub, Int.reduceMul, Int.reduceNeg, Int.reduceToNat, Int.reducePow, Nat.reduceAdd, Nat.reduceLT, Nat.reduceLeDiff, Nat.reduceEqDiff, Nat.reduceBNe, Nat.reduceBEq, gt_iff_lt, ge_iff_le, Bool.and_true, Bool.true_and, Bool.false_and, Bool.and_false, String.reduceBEq, Bool.or_false, Bool.or_true, Bool.true_or, Bool.false_or, and_true, true_and, not_true_eq_false, not_false_eq_true, ne_eq, true_or, or_true, false_or, or_false, and_false, false_and, if_true, if_false, Bool.not_true, Bool.not_false, reduceCtorEq, slcS, c1, c2, c3, lit_o, lit_c, opEq_S]))
  unfold d_number_in b_number_in
  rcases hst with ⟨h1, h2⟩ | ⟨h1, h2, h3⟩
  · subst h1
    subst h2
    iterate 3 (try (simp (disch := (first | assumption | (simp only [List.length_append, List.length_cons, List.length_nil]; omega) | omega)) only [Int.cast_ofNat_Int, Int.natCast_zero, Int.natCast_one, ev_compL0, ev_compL1, ev_mTurn, ev_mComp, ev_wipe0, ev_wipe1, ev_rest0, ev_rest1, ev_isOwn0, ev_isOwn1, ev_con0, ev_con1, ev_all, ev_any, ev_bools0, ev_bools1, List.all_cons, List.all_nil, List.any_cons, List.any_nil, id_eq, ev_bnd, ev_ret, ev_fail, ev_lift, ev_lift0, ev_opnd, ev_opnds, ev_slD, ev_ra, ev_rv, ev_mBin, ev_mBinO, ev_dr, ev_dz, ev_doz, ev_ode, ev_ac, ev_mB1, ev_mBO, ev_opndsL, ev_rsvs0, ev_rsvs1, ev_rsvd, ev_rsvs, ev_bindS, ev_mTrue, ev_mB, ev_mAnd, ev_mOr, ev_mNot, ev_mIf, ev_mTup, ev_mLst, ev_argsD0, ev_argsD1, ev_vals, ev_mRet, ev_sto, ev_sto2, ev_mPar2, ev_mPar3, ev_gN, ev_gTt, ev_gTl, ev_tgt0, ev_tgt1, ev_gF, ev_fzd, ev_fzo, ev_mOwn, ev_mOut, ev_mIsI, ev_mNeg, ev_opNeg, ev_mSl, ev_mSlL, ev_slcT, ev_slcL, ev_mPart, ev_mRev, ev_mStr1, ev_mChain, ev_mFun, ev_mask0, ev_mask1, ev_mk1o, ev_mk1f, ev_mk1d, ev_mk1u, ev_mCall, ev_lend0, ev_lend1, ev_lend2, ev_noS0, ev_noSd, ev_noSs, ev_back, ev_anyS0, ev_anySd, ev_anySs, ev_backF0, ev_backF1, ev_back1o, ev_back1d, ev_back1u, ev_got0, ev_gotd, ev_gots, ev_mItems, ev_itemsL, ev_itemsT, ev_mSigns, ev_mMeth, ev_chkL, ev_updO, ev_gAppend, ev_mSetIx, ev_gSet, ev_mRng, ev_rg1, ev_rg2, ev_mFor, ev_raise, ev_cI, ev_add, ev_sub, ev_abs, ev_max, ev_min, ev_inti, ev_intb, ev_lenL, ev_lenT, ev_lenS, ev_tupL, ev_tupT, ev_lstL, ev_lstT, ev_ixT, ev_ixL, ev_ixS, ev_at0, ev_at1, ev_at2, ev_at3, ev_at4, ev_at5, ev_at6, ev_at7, ev_ixN0, ev_ixN1, ev_is, ev_isnot, ev_isb, ev_isnotb, ev_addL, opEq_int, opNe_int, mSeq_def, isI, tyN, isN, opLt, opLe, opGt, opGe,
    List.getElem?_cons_zero, List.getElem?_cons_succ, List.getElem?_nil, List.set_cons_zero, List.set_cons_succ, List.length_cons, List.length_nil, List.cons_append, List.nil_append, List.replicate, List.append_nil, decide_true, decide_false, Int.reduceLT, Int.reduceLE, Int.reduceGT, Int.reduceGE, Int.reduceEq, Int.reduceNe, Int.reduceAdd, Int.reduceSub, Int.reduceMul, Int.reduceNeg, Int.reduceToNat, Int.reducePow, Nat.reduceAdd, Nat.reduceLT, Nat.reduceLeDiff, Nat.reduceEqDiff, Nat.reduceBNe, Nat.reduceBEq, gt_iff_lt, ge_iff_le, Bool.and_true, Bool.true_and, Bool.false_and, Bool.and_false, String.reduceBEq, Bool.or_false, Bool.or_true, Bool.true_or, Bool.false_or, and_true, true_and, not_true_eq_false, not_false_eq_true, ne_eq, true_or, or_true, false_or, or_false, and_false, false_and, if_true, if_false, Bool.not_true, Bool.not_false, reduceCtorEq, -ev_mIf, lit_s, hp, hcut]))
    iterate 3 (try (simp (disch := (first | assumption | (simp only [List.length_append, List.length_cons, List.length_nil]; omega) | omega)) only [Int.cast_ofNat_Int, Int.natCast_zero, Int.natCast_one, ev_compL0, ev_compL1, ev_mTurn, ev_mComp, ev_wipe0, ev_wipe1, ev_rest0, ev_rest1, ev_isOwn0, ev_isOwn1, ev_con0, ev_con1, ev_all, ev_any, ev_bools0, ev_bools1, List.all_cons, List.all_nil, List.any_cons, List.any_nil, id_eq, ev_bnd, ev_ret, ev_fail, ev_lift, ev_lift0, ev_opnd, ev_opnds, ev_slD, ev_ra, ev_rv, ev_mBin, ev_mBinO, ev_dr, ev_dz, ev_doz, ev_ode, ev_ac, ev_mB1, ev_mBO, ev_opndsL, ev_rsvs0, ev_rsvs1, ev_rsvd, ev_rsvs, ev_bindS, ev_mTrue, ev_mB, ev_mAnd, ev_mOr, ev_mNot, ev_mIf, ev_mTup, ev_mLst, ev_argsD0, ev_argsD1, ev_vals, ev_mRet, ev_sto, ev_sto2, ev_mPar2, ev_mPar3, ev_gN, ev_gTt, ev_gTl, ev_tgt0, ev_tgt1, ev_gF, ev_fzd, ev_fzo, ev_mOwn, ev_mOut, ev_mIsI, ev_mNeg, ev_opNeg, ev_mSl, ev_mSlL, ev_slcT, ev_slcL, ev_mPart, ev_mRev, ev_mStr1, ev_mChain, ev_mFun, ev_mask0, ev_mask1, ev_mk1o, ev_mk1f, ev_mk1d, ev_mk1u, ev_mCall, ev_lend0, ev_lend1, ev_lend2, ev_noS0, ev_noSd, ev_noSs, ev_back, ev_anyS0, ev_anySd, ev_anySs, ev_backF0, ev_backF1, ev_back1o, ev_back1d, ev_back1u, ev_got0, ev_gotd, ev_gots, ev_mItems, ev_itemsL, ev_itemsT, ev_mSigns, ev_mMeth, ev_chkL, ev_updO, ev_gAppend, ev_mSetIx, ev_gSet, ev_mRng, ev_rg1, ev_rg2, ev_mFor, ev_raise, ev_cI, ev_add, ev_sub, ev_abs, ev_max, ev_min, ev_inti, ev_intb, ev_lenL, ev_lenT, ev_lenS, ev_tupL, ev_tupT, ev_lstL, ev_lstT, ev_ixT, ev_ixL, ev_ixS, ev_at0, ev_at1, ev_at2, ev_at3, ev_at4, ev_at5, ev_at6, ev_at7, ev_ixN0, ev_ixN1, ev_is, ev_isnot, ev_isb, ev_isnotb, ev_addL, opEq_int, opNe_int, mSeq_def, isI, tyN, isN, opLt, opLe, opGt, opGe,
    List.getElem?_cons_zero, List.getElem?_cons_succ, List.getElem?_nil, List.set_cons_zero, List.set_cons_succ, List.length_cons, List.length_nil, List.cons_append, List.nil_append, List.replicate, List.append_nil, decide_true, decide_false, Int.reduceLT, Int.reduceLE, Int.reduceGT, Int.reduceGE, Int.reduceEq, Int.reduceNe, Int.reduceAdd, Int.reduceSub, Int.reduceMul, Int.reduceNeg, Int.reduceToNat, Int.reducePow, Nat.reduceAdd, Nat.reduceLT, Nat.reduceLeDiff, Nat.reduceEqDiff, Nat.reduceBNe, Nat.reduceBEq, gt_iff_lt, ge_iff_le, Bool.and_true, Bool.true_and, Bool.false_and, Bool.and_false, String.reduceBEq, Bool.or_false, Bool.or_true, Bool.true_or, Bool.false_or, and_true, true_and, not_true_eq_false, not_false_eq_true, ne_eq, true_or, or_true, false_or, or_false, and_false, false_and, if_true, if_false, Bool.not_true, Bool.not_false, reduceCtorEq, top_ok ha hb, lit_s, opEq_S, ev_is, hN', sz3, num]))
  · subst h2
    subst h3
    iterate 3 (try (simp (disch := (first | assumption | (simp only [List.length_append, List.length_cons, List.length_nil]; omega) | omega)) only [Int.cast_ofNat_Int, Int.natCast_zero, Int.natCast_one, ev_compL0, ev_compL1, ev_mTurn, ev_mComp, ev_wipe0, ev_wipe1, ev_rest0, ev_rest1, ev_isOwn0, ev_isOwn1, ev_con0, ev_con1, ev_all, ev_any, ev_bools0, ev_bools1, List.all_cons, List.all_nil, List.any_cons, List.any_nil, id_eq, ev_bnd, ev_ret, ev_fail, ev_lift, ev_lift0, ev_opnd, ev_opnds, ev_slD, ev_ra, ev_rv, ev_mBin, ev_mBinO, ev_dr, ev_dz, ev_doz, ev_ode, ev_ac, ev_mB1, ev_mBO, ev_opndsL, ev_rsvs0, ev_rsvs1, ev_rsvd, ev_rsvs, ev_bindS, ev_mTrue, ev_mB, ev_mAnd, ev_mOr, ev_mNot, ev_mIf, ev_mTup, ev_mLst, ev_argsD0, ev_argsD1, ev_vals, ev_mRet, ev_sto, ev_sto2, ev_mPar2, ev_mPar3, ev_gN, ev_gTt, ev_gTl, ev_tgt0, ev_tgt1, ev_gF, ev_fzd, ev_fzo, ev_mOwn, ev_mOut, ev_mIsI, ev_mNeg, ev_opNeg, ev_mSl, ev_mSlL, ev_slcT, ev_slcL, ev_mPart, ev_mRev, ev_mStr1, ev_mChain, ev_mFun, ev_mask0, ev_mask1, ev_mk1o, ev_mk1f, ev_mk1d, ev_mk1u, ev_mCall, ev_lend0, ev_lend1, ev_lend2, ev_noS0, ev_noSd, ev_noSs, ev_back, ev_anyS0, ev_anySd, ev_anySs, ev_backF0, ev_backF1, ev_back1o, ev_back1d, ev_back1u, ev_got0, ev_gotd, ev_gots, ev_mItems, ev_itemsL, ev_itemsT, ev_mSigns, ev_mMeth, ev_chkL, ev_updO, ev_gAppend, ev_mSetIx, ev_gSet, ev_mRng, ev_rg1, ev_rg2, ev_mFor, ev_raise, ev_cI, ev_add, ev_sub, ev_abs, ev_max, ev_min, ev_inti, ev_intb, ev_lenL, ev_lenT, ev_lenS, ev_tupL, ev_tupT, ev_lstL, ev_lstT, ev_ixT, ev_ixL, ev_ixS, ev_at0, ev_at1, ev_at2, ev_at3, ev_at4, ev_at5, ev_at6, ev_at7, ev_ixN0, ev_ixN1, ev_is, ev_isnot, ev_isb, ev_isnotb, ev_addL, opEq_int, opNe_int, mSeq_def, isI, tyN, isN, opLt, opLe, opGt, opGe,
    List.getElem?_cons_zero, List.getElem?_cons_succ, List.getElem?_nil, List.set_cons_zero, List.set_cons_succ, List.length_cons, List.length_nil, List.cons_append, List.nil_append, List.replicate, List.append_nil, decide_true, decide_false, Int.reduceLT, Int.reduceLE, Int.reduceGT, Int.reduceGE, Int.reduceEq, Int.reduceNe, Int.reduceAdd, Int.reduceSub, Int.reduceMul, Int.reduceNeg, Int.reduceToNat, Int.reducePow, Nat.reduceAdd, Nat.reduceLT, Nat.reduceLeDiff, Nat.reduceEqDiff, Nat.reduceBNe, Nat.reduceBEq, gt_iff_lt, ge_iff_le, Bool.and_true, Bool.true_and, Bool.false_and, Bool.and_false, String.reduceBEq, Bool.or_false, Bool.or_true, Bool.true_or, Bool.false_or, and_true, true_and, not_true_eq_false, not_false_eq_true, ne_eq, true_or, or_true, false_or, or_false, and_false, false_and, if_true, if_false, Bool.not_true, Bool.not_false, reduceCtorEq, -ev_mIf, lit_s, hp, hcut]))
    iterate 3 (try (simp (disch := (first | assumption | (simp only [List.length_append, List.length_cons, List.length_nil]; omega) | omega)) only [Int.cast_ofNat_Int, Int.natCast_zero, Int.natCast_one, ev_compL0, ev_compL1, ev_mTurn, ev_mComp, ev_wipe0, ev_wipe1, ev_rest0, ev_rest1, ev_isOwn0, ev_isOwn1, ev_con0, ev_con1, ev_all, ev_any, ev_bools0, ev_bools1, List.all_cons, List.all_nil, List.any_cons, List.any_nil, id_eq, ev_bnd, ev_ret, ev_fail, ev_lift, ev_lift0, ev_opnd, ev_opnds, ev_slD, ev_ra, ev_rv, ev_mBin, ev_mBinO, ev_dr, ev_dz, ev_doz, ev_ode, ev_ac, ev_mB1, ev_mBO, ev_opndsL, ev_rsvs0, ev_rsvs1, ev_rsvd, ev_rsvs, ev_bindS, ev_mTrue, ev_mB, ev_mAnd, ev_mOr, ev_mNot, ev_mIf, ev_mTup, ev_mLst, ev_argsD0, ev_argsD1, ev_vals, ev_mRet, ev_sto, ev_sto2, ev_mPar2, ev_mPar3, ev_gN, ev_gTt, ev_gTl, ev_tgt0, ev_tgt1, ev_gF, ev_fzd, ev_fzo, ev_mOwn, ev_mOut, ev_mIsI, ev_mNeg, ev_opNeg, ev_mSl, ev_mSlL, ev_slcT, ev_slcL, ev_mPart, ev_mRev, ev_mStr1, ev_mChain, ev_mFun, ev_mask0, ev_mask1, ev_mk1o, ev_mk1f, ev_mk1d, ev_mk1u, ev_mCall, ev_lend0, ev_lend1, ev_lend2, ev_noS0, ev_noSd, ev_noSs, ev_back, ev_anyS0, ev_anySd, ev_anySs, ev_backF0, ev_backF1, ev_back1o, ev_back1d, ev_back1u, ev_got0, ev_gotd, ev_gots, ev_mItems, ev_itemsL, ev_itemsT, ev_mSigns, ev_mMeth, ev_chkL, ev_updO, ev_gAppend, ev_mSetIx, ev_gSet, ev_mRng, ev_rg1, ev_rg2, ev_mFor, ev_raise, ev_cI, ev_add, ev_sub, ev_abs, ev_max, ev_min, ev_inti, ev_intb, ev_lenL, ev_lenT, ev_lenS, ev_tupL, ev_tupT, ev_lstL, ev_lstT, ev_ixT, ev_ixL, ev_ixS, ev_at0, ev_at1, ev_at2, ev_at3, ev_at4, ev_at5, ev_at6, ev_at7, ev_ixN0, ev_ixN1, ev_is, ev_isnot, ev_isb, ev_isnotb, ev_addL, opEq_int, opNe_int, mSeq_def, isI, tyN, isN, opLt, opLe, opGt, opGe,
    List.getElem?_cons_zero, List.getElem?_cons_succ, List.getElem?_nil, List.set_cons_zero, List.set_cons_succ, List.length_cons, List.length_nil, List.cons_append, List.nil_append, List.replicate, List.append_nil, decide_true, decide_false, Int.reduceLT, Int.reduceLE, Int.reduceGT, Int.reduceGE, Int.reduceEq, Int.reduceNe, Int.reduceAdd, Int.reduceSub, Int.reduceMul, Int.reduceNeg, Int.reduceToNat, Int.reducePow, Nat.reduceAdd, Nat.reduceLT, Nat.reduceLeDiff, Nat.reduceEqDiff, Nat.reduceBNe, Nat.reduceBEq, gt_iff_lt, ge_iff_le, Bool.and_true, Bool.true_and, Bool.false_and, Bool.and_false, String.reduceBEq, Bool.or_false, Bool.or_true, Bool.true_or, Bool.false_or, and_true, true_and, not_true_eq_false, not_false_eq_true, ne_eq, true_or, or_true, false_or, or_false, and_false, false_and, if_true, if_false, Bool.not_true, Bool.not_false, reduceCtorEq, top_ok ha hb, lit_s, opEq_S, ev_is, hN', sz3, num, whole_int hc]))
theorem isN_num (x : Int × Int × Int) : isN (num x) = false := rfl
theorem number_by_ok {x : Int × Int × Int} (h : NB x) : d_number_by [.d (S (showL x))] = some (.ok (.d (num x)) [.un]) := by
  have hc0 := h.1.1
  have hc1 := h.2.2.2
  have hs := show_ok (x := x) h.2.1 h.2.2.1 (by omega)
  have hi := number_in_ok h
  unfold d_number_by b_number_by
  iterate 3 (try (simp only [Int.cast_ofNat_Int, Int.natCast_zero, Int.natCast_one, ev_compL0, ev_compL1, ev_mTurn, ev_mComp, ev_wipe0, ev_wipe1, ev_rest0, ev_rest1, ev_isOwn0, ev_isOwn1, ev_con0, ev_con1, ev_all, ev_any, ev_bools0, ev_bools1, List.all_cons, List.all_nil, List.any_cons, List.any_nil, id_eq, ev_bnd, ev_ret, ev_fail, ev_lift, ev_lift0, ev_opnd, ev_opnds, ev_slD, ev_ra, ev_rv, ev_mBin, ev_mBinO, ev_dr, ev_dz, ev_doz, ev_ode, ev_ac, ev_mB1, ev_mBO, ev_opndsL, ev_rsvs0, ev_rsvs1, ev_rsvd, ev_rsvs, ev_bindS, ev_mTrue, ev_mB, ev_mAnd, ev_mOr, ev_mNot, ev_mIf, ev_mTup, ev_mLst, ev_argsD0, ev_argsD1, ev_vals, ev_mRet, ev_sto, ev_sto2, ev_mPar2, ev_mPar3, ev_gN, ev_gTt, ev_gTl, ev_tgt0, ev_tgt1, ev_gF, ev_fzd, ev_fzo, ev_mOwn, ev_mOut, ev_mIsI, ev_mNeg, ev_opNeg, ev_mSl, ev_mSlL, ev_slcT, ev_slcL, ev_mPart, ev_mRev, ev_mStr1, ev_mChain, ev_mFun, ev_mask0, ev_mask1, ev_mk1o, ev_mk1f, ev_mk1d, ev_mk1u, ev_mCall, ev_lend0, ev_lend1, ev_lend2, ev_noS0, ev_noSd, ev_noSs, ev_back, ev_anyS0, ev_anySd, ev_anySs, ev_backF0, ev_backF1, ev_back1o, ev_back1d, ev_back1u, ev_got0, ev_gotd, ev_gots, ev_mItems, ev_itemsL, ev_itemsT, ev_mSigns, ev_mMeth, ev_chkL, ev_updO, ev_gAppend, ev_mSetIx, ev_gSet, ev_mRng, ev_rg1, ev_rg2, ev_mFor, ev_raise, ev_cI, ev_add, ev_sub, ev_abs, ev_max, ev_min, ev_inti, ev_intb, ev_lenL, ev_lenT, ev_lenS, ev_tupL, ev_tupT, ev_lstL, ev_lstT, ev_ixT, ev_ixL, ev_ixS, ev_at0, ev_at1, ev_at2, ev_at3, ev_at4, ev_at5, ev_at6, ev_at7, ev_ixN0, ev_ixN1, ev_is, ev_isnot, ev_isb, ev_isnotb, ev_addL, opEq_int, opNe_int, mSeq_def, isI, tyN, isN, opLt, opLe, opGt, opGe,
    List.getElem?_cons_zero, List.getElem?_cons_succ, List.getElem?_nil, List.set_cons_zero, List.set_cons_succ, List.length_cons, List.length_nil, List.cons_append, List.nil_append, List.replicate, List.append_nil, decide_true, decide_false, Int.reduceLT, Int.reduceLE, Int.reduceGT, Int.reduceGE, Int.reduceEq, Int.reduceNe, Int.reduceAdd, Int.reduceSub, Int.reduceMul, Int.reduceNeg, Int.reduceToNat, Int.reducePow, Nat.reduceAdd, Nat.reduceLT, Nat.reduceLeDiff, Nat.reduceEqDiff, Nat.reduceBNe, Nat.reduceBEq, gt_iff_lt, ge_iff_le, Bool.and_true, Bool.true_and, Bool.false_and, Bool.and_false, String.reduceBEq, Bool.or_false, Bool.or_true, Bool.true_or, Bool.false_or, and_true, true_and, not_true_eq_false, not_false_eq_true, ne_eq, true_or, or_true, false_or, or_false, and_false, false_and, if_true, if_false, Bool.not_true, Bool.not_false, reduceCtorEq, -isN, isN_num, hi, hs, opEq_S]))
theorem read_ok {x : Int × Int × Int} (h : NB x) : d_read_number [.d (S (showL x))] = some (.ok (.d (num x)) [.un]) := by
  have hi := number_by_ok h
  unfold d_read_number b_read_number
  iterate 3 (try (simp only [Int.cast_ofNat_Int, Int.natCast_zero, Int.natCast_one, ev_compL0, ev_compL1, ev_mTurn, ev_mComp, ev_wipe0, ev_wipe1, ev_rest0, ev_rest1, ev_isOwn0, ev_isOwn1, ev_con0, ev_con1, ev_all, ev_any, ev_bools0, ev_bools1, List.all_cons, List.all_nil, List.any_cons, List.any_nil, id_eq, ev_bnd, ev_ret, ev_fail, ev_lift, ev_lift0, ev_opnd, ev_opnds, ev_slD, ev_ra, ev_rv, ev_mBin, ev_mBinO, ev_dr, ev_dz, ev_doz, ev_ode, ev_ac, ev_mB1, ev_mBO, ev_opndsL, ev_rsvs0, ev_rsvs1, ev_rsvd, ev_rsvs, ev_bindS, ev_mTrue, ev_mB, ev_mAnd, ev_mOr, ev_mNot, ev_mIf, ev_mTup, ev_mLst, ev_argsD0, ev_argsD1, ev_vals, ev_mRet, ev_sto, ev_sto2, ev_mPar2, ev_mPar3, ev_gN, ev_gTt, ev_gTl, ev_tgt0, ev_tgt1, ev_gF, ev_fzd, ev_fzo, ev_mOwn, ev_mOut, ev_mIsI, ev_mNeg, ev_opNeg, ev_mSl, ev_mSlL, ev_slcT, ev_slcL, ev_mPart, ev_mRev, ev_mStr1, ev_mChain, ev_mFun, ev_mask0, ev_mask1, ev_mk1o, ev_mk1f, ev_mk1d, ev_mk1u, ev_mCall, ev_lend0, ev_lend1, ev_lend2, ev_noS0, ev_noSd, ev_noSs, ev_back, ev_anyS0, ev_anySd, ev_anySs, ev_backF0, ev_backF1, ev_back1o, ev_back1d, ev_back1u, ev_got0, ev_gotd, ev_gots, ev_mItems, ev_itemsL, ev_itemsT, ev_mSigns, ev_mMeth, ev_chkL, ev_updO, ev_gAppend, ev_mSetIx, ev_gSet, ev_mRng, ev_rg1, ev_rg2, ev_mFor, ev_raise, ev_cI, ev_add, ev_sub, ev_abs, ev_max, ev_min, ev_inti, ev_intb, ev_lenL, ev_lenT, ev_lenS, ev_tupL, ev_tupT, ev_lstL, ev_lstT, ev_ixT, ev_ixL, ev_ixS, ev_at0, ev_at1, ev_at2, ev_at3, ev_at4, ev_at5, ev_at6, ev_at7, ev_ixN0, ev_ixN1, ev_is, ev_isnot, ev_isb, ev_isnotb, ev_addL, opEq_int, opNe_int, mSeq_def, isI, tyN, isN, opLt, opLe, opGt, opGe,
    List.getElem?_cons_zero, List.getElem?_cons_succ, List.getElem?_nil, List.set_cons_zero, List.set_cons_succ, List.length_cons, List.length_nil, List.cons_append, List.nil_append, List.replicate, List.append_nil, decide_true, decide_false, Int.reduceLT, Int.reduceLE, Int.reduceGT, Int.reduceGE, Int.reduceEq, Int.reduceNe, Int.reduceAdd, Int.reduceSub, Int.reduceMul, Int.reduceNeg, Int.reduceToNat, Int.reducePow, Nat.reduceAdd, Nat.reduceLT, Nat.reduceLeDiff, Nat.reduceEqDiff, Nat.reduceBNe, Nat.reduceBEq, gt_iff_lt, ge_iff_le, Bool.and_true, Bool.true_and, Bool.false_and, Bool.and_false, String.reduceBEq, Bool.or_false, Bool.or_true, Bool.true_or, Bool.false_or, and_true, true_and, not_true_eq_false, not_false_eq_true, ne_eq, true_or, or_true, false_or, or_false, and_false, false_and, if_true, if_false, Bool.not_true, Bool.not_false, reduceCtorEq, -isN, isN_num, hi]))

/-! ### the law -/
theorem shaped_num (x : Int × Int × Int) : SeqAt.shaped (num x) = true := by
  simp [SeqAt.shaped, num, PyData.canLay0, PyData.canLayAll0, PyData.depth, PyData.depthAll]
theorem eqv_num (x y : Int × Int × Int) : PyData.eqv (num x) (num y) = decide (x = y) := by
  obtain ⟨a, b, c⟩ := x
  obtain ⟨p, q, r⟩ := y
  simp only [num, PyData.eqv, PyData.eqvAll, Prod.mk.injEq, Bool.and_true]
  by_cases h1 : a = p <;> by_cases h2 : b = q <;> by_cases h3 : c = r <;> simp [h1, h2, h3]
theorem eqD_num (x y : Int × Int × Int) : eqD (num x) (num y) = some (decide (x = y)) := by
  rw [← eqv_num]
  show (if SeqAt.shaped (num x) = true ∧ SeqAt.shaped (num y) = true then some (PyData.eqv (num x) (num y)) else none) = _
  rw [if_pos ⟨shaped_num x, shaped_num y⟩]
theorem opEq_num (x y : Int × Int × Int) : opEq (num x) (num y) = some (.bool (decide (x = y))) := by unfold opEq; rw [eqD_num]
theorem opNe_num (x y : Int × Int × Int) : opNe (num x) (num y) = some (.bool (!decide (x = y))) := by unfold opNe; rw [eqD_num]
def pr (x : Int × Int × Int) : D := .tuple [num x, S (showL x)]
theorem NB_show {x : Int × Int × Int} (h : NB x) : d_show_number [.d (num x)] = some (.ok (.d (S (showL x))) [.un]) :=
  show_ok h.2.1 h.2.2.1 (by have := h.1.1; have := h.2.2.2; omega)
theorem NB_ltext {x : Int × Int × Int} (h : NB x) : d__law_text [.d (num x)] = some (.ok (.d (S (showL x))) [.un]) :=
  ltext_ok h.2.1 h.2.2.1 (by have := h.1.1; have := h.2.2.2; omega)
theorem sz_of {n m : Nat} (h : n ≤ m) (hm : m ≤ 1000) : n < sizeLine := Nat.lt_of_le_of_lt h (Nat.lt_of_le_of_lt hm (by decide))
/-- unset, or set -/
def T4 (T : Fr) : Prop := T = [.un, .un, .un, .un] ∨ ∃ a b c d : D, T = [.d a, .d b, .d c, .d d]
theorem turn_ok {s k t : D} {L : List (Int × Int × Int)} {o : Oo} {T : Fr} (hT : T4 T) (ho : GB o) (hL : L.length < 900) :
    ∃ (x : Int × Int × Int) (o' : Oo) (ρ1 : Fr), gN 4 t (.d s :: .own false (.l (L.map pr)) :: .d k :: .own false o :: T) = some (.ok () ρ1) ∧ w_law_2 ρ1 = some (.ok .nx [.d s, .own false (.l ((L ++ [x]).map pr)), .d k, .own false o', .d t, .d (num x), .d (S (showL x)), .d (num x)]) ∧ NB x ∧ GB o' := by
  obtain ⟨x, o', e, hx, ho'⟩ := any_ok ho
  have e1 := NB_show hx
  have e2 := NB_ltext hx
  have e3 := read_ok hx
  have e4 := lis_number_ok hx.1
  have hl : (L.map pr).length < sizeLine := by rw [List.length_map]; exact sz_of (Nat.le_of_lt hL) (by decide)
  have sz2 : (2 : Nat) ≤ sizeLine := by decide
  have em : (L ++ [x]).map pr = L.map pr ++ [.tuple [num x, S (showL x)]] := by simp [pr]
  rcases hT with rfl | ⟨a, b, c, d, rfl⟩
  · refine ⟨x, o', _, rfl, ?_, hx, ho'⟩
    rw [em]
    unfold w_law_2
    iterate 3 (try (simp only [Int.cast_ofNat_Int, Int.natCast_zero, Int.natCast_one, ev_compL0, ev_compL1, ev_mTurn, ev_mComp, ev_wipe0, ev_wipe1, ev_rest0, ev_rest1, ev_isOwn0, ev_isOwn1, ev_con0, ev_con1, ev_all, ev_any, ev_bools0, ev_bools1, List.all_cons, List.all_nil, List.any_cons, List.any_nil, id_eq, ev_bnd, ev_ret, ev_fail, ev_lift, ev_lift0, ev_opnd, ev_opnds, ev_slD, ev_ra, ev_rv, ev_mBin, ev_mBinO, ev_dr, ev_dz, ev_doz, ev_ode, ev_ac, ev_mB1, ev_mBO, ev_opndsL, ev_rsvs0, ev_rsvs1, ev_rsvd, ev_rsvs, ev_bindS, ev_mTrue, ev_mB, ev_mAnd, ev_mOr, ev_mNot, ev_mIf, ev_mTup, ev_mLst, ev_argsD0, ev_argsD1, ev_vals, ev_mRet, ev_sto, ev_sto2, ev_mPar2, ev_mPar3, ev_gN, ev_gTt, ev_gTl, ev_tgt0, ev_tgt1, ev_gF, ev_fzd, ev_fzo, ev_mOwn, ev_mOut, ev_mIsI, ev_mNeg, ev_opNeg, ev_mSl, ev_mSlL, ev_slcT, ev_slcL, ev_mPart, ev_mRev, ev_mStr1, ev_mChain, ev_mFun, ev_mask0, ev_mask1, ev_mk1o, ev_mk1f, ev_mk1d, ev_mk1u, ev_mCall, ev_lend0, ev_lend1, ev_lend2, ev_noS0, ev_noSd, ev_noSs, ev_back, ev_anyS0, ev_anySd, ev_anySs, ev_backF0, ev_backF1, ev_back1o, ev_back1d, ev_back1u, ev_got0, ev_gotd, ev_gots, ev_mItems, ev_itemsL, ev_itemsT, ev_mSigns, ev_mMeth, ev_chkL, ev_updO, ev_gAppend, ev_mSetIx, ev_gSet, ev_mRng, ev_rg1, ev_rg2, ev_mFor, ev_raise, ev_cI, ev_add, ev_sub, ev_abs, ev_max, ev_min, ev_inti, ev_intb, ev_lenL, ev_lenT, ev_lenS, ev_tupL, ev_tupT, ev_lstL, ev_lstT, ev_ixT, ev_ixL, ev_ixS, ev_at0, ev_at1, ev_at2, ev_at3, ev_at4, ev_at5, ev_at6, ev_at7, ev_ixN0, ev_ixN1, ev_is, ev_isnot, ev_isb, ev_isnotb, ev_addL, opEq_int, opNe_int, mSeq_def, isI, tyN, isN, opLt, opLe, opGt, opGe,
    List.getElem?_cons_zero, List.getElem?_cons_succ, List.getElem?_nil, List.set_cons_zero, List.set_cons_succ, List.length_cons, List.length_nil, List.cons_append, List.nil_append, List.replicate, List.append_nil, decide_true, decide_false, Int.reduceLT, Int.reduceLE, Int.reduceGT, Int.reduceGE, Int.reduceEq, Int.reduceNe, Int.reduceAdd, Int.reduceSub, Int.reduceMul, Int.reduceNeg, Int.reduceToNat, Int.reducePow, Nat.reduceAdd, Nat.reduceLT, Nat.reduceLeDiff, Nat.reduceEqDiff, Nat.reduceBNe, Nat.reduceBEq, gt_iff_lt, ge_iff_le, Bool.and_true, Bool.true_and, Bool.false_and, Bool.and_false, String.reduceBEq, Bool.or_false, Bool.or_true, Bool.true_or, Bool.false_or, and_true, true_and, not_true_eq_false, not_false_eq_true, ne_eq, true_or, or_true, false_or, or_false, and_false, false_and, if_true, if_false, Bool.not_true, Bool.not_false, reduceCtorEq, e, e1, e2, e3, e4, opNe_S, opNe_num, hl, sz2]))
  · refine ⟨x, o', _, rfl, ?_, hx, ho'⟩
    rw [em]
    unfold w_law_2
    iterate 3 (try (simp only [Int.cast_ofNat_Int, Int.natCast_zero, Int.natCast_one, ev_compL0, ev_compL1, ev_mTurn, ev_mComp, ev_wipe0, ev_wipe1, ev_rest0, ev_rest1, ev_isOwn0, ev_isOwn1, ev_con0, ev_con1, ev_all, ev_any, ev_bools0, ev_bools1, List.all_cons, List.all_nil, List.any_cons, List.any_nil, id_eq, ev_bnd, ev_ret, ev_fail, ev_lift, ev_lift0, ev_opnd, ev_opnds, ev_slD, ev_ra, ev_rv, ev_mBin, ev_mBinO, ev_dr, ev_dz, ev_doz, ev_ode, ev_ac, ev_mB1, ev_mBO, ev_opndsL, ev_rsvs0, ev_rsvs1, ev_rsvd, ev_rsvs, ev_bindS, ev_mTrue, ev_mB, ev_mAnd, ev_mOr, ev_mNot, ev_mIf, ev_mTup, ev_mLst, ev_argsD0, ev_argsD1, ev_vals, ev_mRet, ev_sto, ev_sto2, ev_mPar2, ev_mPar3, ev_gN, ev_gTt, ev_gTl, ev_tgt0, ev_tgt1, ev_gF, ev_fzd, ev_fzo, ev_mOwn, ev_mOut, ev_mIsI, ev_mNeg, ev_opNeg, ev_mSl, ev_mSlL, ev_slcT, ev_slcL, ev_mPart, ev_mRev, ev_mStr1, ev_mChain, ev_mFun, ev_mask0, ev_mask1, ev_mk1o, ev_mk1f, ev_mk1d, ev_mk1u, ev_mCall, ev_lend0, ev_lend1, ev_lend2, ev_noS0, ev_noSd, ev_noSs, ev_back, ev_anyS0, ev_anySd, ev_anySs, ev_backF0, ev_backF1, ev_back1o, ev_back1d, ev_back1u, ev_got0, ev_gotd, ev_gots, ev_mItems, ev_itemsL, ev_itemsT, ev_mSigns, ev_mMeth, ev_chkL, ev_updO, ev_gAppend, ev_mSetIx, ev_gSet, ev_mRng, ev_rg1, ev_rg2, ev_mFor, ev_raise, ev_cI, ev_add, ev_sub, ev_abs, ev_max, ev_min, ev_inti, ev_intb, ev_lenL, ev_lenT, ev_lenS, ev_tupL, ev_tupT, ev_lstL, ev_lstT, ev_ixT, ev_ixL, ev_ixS, ev_at0, ev_at1, ev_at2, ev_at3, ev_at4, ev_at5, ev_at6, ev_at7, ev_ixN0, ev_ixN1, ev_is, ev_isnot, ev_isb, ev_isnotb, ev_addL, opEq_int, opNe_int, mSeq_def, isI, tyN, isN, opLt, opLe, opGt, opGe,
    List.getElem?_cons_zero, List.getElem?_cons_succ, List.getElem?_nil, List.set_cons_zero, List.set_cons_succ, List.length_cons, List.length_nil, List.cons_append, List.nil_append, List.replicate, List.append_nil, decide_true, decide_false, Int.reduceLT, Int.reduceLE, Int.reduceGT, Int.reduceGE, Int.reduceEq, Int.reduceNe, Int.reduceAdd, Int.reduceSub, Int.reduceMul, Int.reduceNeg, Int.reduceToNat, Int.reducePow, Nat.reduceAdd, Nat.reduceLT, Nat.reduceLeDiff, Nat.reduceEqDiff, Nat.reduceBNe, Nat.reduceBEq, gt_iff_lt, ge_iff_le, Bool.and_true, Bool.true_and, Bool.false_and, Bool.and_false, String.reduceBEq, Bool.or_false, Bool.or_true, Bool.true_or, Bool.false_or, and_true, true_and, not_true_eq_false, not_false_eq_true, ne_eq, true_or, or_true, false_or, or_false, and_false, false_and, if_true, if_false, Bool.not_true, Bool.not_false, reduceCtorEq, e, e1, e2, e3, e4, opNe_S, opNe_num, hl, sz2]))
theorem turns_ok {s k : D} {L : List (Int × Int × Int)} {o : Oo} {T : Fr} (hT : T4 T) (ho : GB o) (hN : ∀ x ∈ L, NB x) (hL : L.length < 800) :
    ∃ (M : List (Int × Int × Int)) (o' : Oo) (T' : Fr), l_law_2 (.d s :: .own false (.l (L.map pr)) :: .d k :: .own false o :: T) = some (.ok .nx (.d s :: .own false (.l (M.map pr)) :: .d k :: .own false o' :: T')) ∧ T4 T' ∧ GB o' ∧ (∀ x ∈ M, NB x) ∧ M.length ≤ L.length + 6 := by
  have key : ∃ ρ', forL (gN 4) w_law_2 (rangeL 0 6) (.d s :: .own false (.l (L.map pr)) :: .d k :: .own false o :: T) = some (.ok .nx ρ') ∧ ∃ (M : List (Int × Int × Int)) (o' : Oo) (T' : Fr), ρ' = (.d s :: .own false (.l (M.map pr)) :: .d k :: .own false o' :: T') ∧ T4 T' ∧ GB o' ∧ (∀ x ∈ M, NB x) ∧ M.length + ([] : List D).length ≤ L.length + 6 := by
    refine forL_inv (fun xs ρ => ∃ (M : List (Int × Int × Int)) (o' : Oo) (T' : Fr), ρ = (.d s :: .own false (.l (M.map pr)) :: .d k :: .own false o' :: T') ∧ T4 T' ∧ GB o' ∧ (∀ x ∈ M, NB x) ∧ M.length + xs.length ≤ L.length + 6) ⟨L, o, T, rfl, hT, ho, hN, by rw [rangeL_len]; omega⟩ ?_
    rintro t r ρ ⟨M, o1, T1, rfl, hT1, ho1, hM, hlen⟩
    have hlen : M.length + (r.length + 1) ≤ L.length + 6 := hlen
    obtain ⟨x, o2, ρ1, e1, e2, hx, ho2⟩ := turn_ok (s := s) (k := k) (t := t) (L := M) hT1 ho1 (by omega)
    refine ⟨ρ1, _, e1, e2, M ++ [x], o2, _, rfl, .inr ⟨_, _, _, _, rfl⟩, ho2, fun y hy => ?_, by rw [List.length_append, List.length_singleton]; omega⟩
    rcases List.mem_append.mp hy with hy | hy
    · exact hM y hy
    · rw [List.mem_singleton.mp hy]; exact hx
  obtain ⟨ρ', e, M, o', T', rfl, h1, h2, h3, h4⟩ := key
  refine ⟨M, o', T', ?_, h1, h2, h3, by simpa using h4⟩
  have hr : rg1 [.int 6] = some (rangeL 0 6) := rfl
  unfold l_law_2
  rw [ev_mFor]
  have e0 : mRng rg1 (ac (dr (DL.ret (.int 6))) (DL.ret [])) (.d s :: .own false (.l (L.map pr)) :: .d k :: .own false o :: T) = some (.ok (rangeL 0 6) (.d s :: .own false (.l (L.map pr)) :: .d k :: .own false o :: T)) := rfl
  rw [bnd_of e0, e]
def T6 (T : Fr) : Prop := T = [.un, .un, .un, .un, .un, .un] ∨ ∃ (k : D) (o : Oo) (T' : Fr), T = .d k :: .own false o :: T' ∧ T4 T'
theorem bags_ok (ns : List Int) : ∃ (M : List (Int × Int × Int)) (T' : Fr), l_law_3 [.d (scrD ns), .own false (.l []), .un, .un, .un, .un, .un, .un] = some (.ok .nx (.d (scrD ns) :: .own false (.l (M.map pr)) :: T')) ∧ T6 T' ∧ (∀ x ∈ M, NB x) := by
  obtain ⟨m, hm, hm6⟩ : ∃ m : Nat, mRng rg1 (ac (dr (mB1 bMax (ac (dr (DL.ret (.int 2))) (ac (dr (mB1 bMin (ac (dr (DL.ret (.int 6))) (ac (dr (mB1 bLen (ac (ra 0) (DL.ret [])))) (DL.ret []))))) (DL.ret []))))) (DL.ret [])) [.d (scrD ns), .own false (.l []), .un, .un, .un, .un, .un, .un] = some (.ok (rangeL 0 m) [.d (scrD ns), .own false (.l []), .un, .un, .un, .un, .un, .un]) ∧ m ≤ 6 := by
    generalize hn : (ns.length : Int) = n
    have hn0 : 0 ≤ n := by omega
    obtain ⟨u, hu, hu0, hu6⟩ : ∃ u : Int, (if (if n < 6 then n else 6) > 2 then (if n < 6 then n else 6) else 2) = u ∧ 0 ≤ u ∧ u ≤ 6 := ⟨_, rfl, by split <;> split <;> omega, by split <;> split <;> omega⟩
    refine ⟨u.toNat, ?_, by omega⟩
    have hr : rg1 [.int u] = some (rangeL 0 u.toNat) := by rw [ev_rg1, if_pos (by omega)]
    have hu : (if (2 : Int) < (if n < 6 then n else 6) then (if n < 6 then n else 6) else 2) = u := hu
    iterate 3 (try (simp only [Int.cast_ofNat_Int, Int.natCast_zero, Int.natCast_one, ev_compL0, ev_compL1, ev_mTurn, ev_mComp, ev_wipe0, ev_wipe1, ev_rest0, ev_rest1, ev_isOwn0, ev_isOwn1, ev_con0, ev_con1, ev_all, ev_any, ev_bools0, ev_bools1, List.all_cons, List.all_nil, List.any_cons, List.any_nil, id_eq, ev_bnd, ev_ret, ev_fail, ev_lift, ev_lift0, ev_opnd, ev_opnds, ev_slD, ev_ra, ev_rv, ev_mBin, ev_mBinO, ev_dr, ev_dz, ev_doz, ev_ode, ev_ac, ev_mB1, ev_mBO, ev_opndsL, ev_rsvs0, ev_rsvs1, ev_rsvd, ev_rsvs, ev_bindS, ev_mTrue, ev_mB, ev_mAnd, ev_mOr, ev_mNot, ev_mIf, ev_mTup, ev_mLst, ev_argsD0, ev_argsD1, ev_vals, ev_mRet, ev_sto, ev_sto2, ev_mPar2, ev_mPar3, ev_gN, ev_gTt, ev_gTl, ev_tgt0, ev_tgt1, ev_gF, ev_fzd, ev_fzo, ev_mOwn, ev_mOut, ev_mIsI, ev_mNeg, ev_opNeg, ev_mSl, ev_mSlL, ev_slcT, ev_slcL, ev_mPart, ev_mRev, ev_mStr1, ev_mChain, ev_mFun, ev_mask0, ev_mask1, ev_mk1o, ev_mk1f, ev_mk1d, ev_mk1u, ev_mCall, ev_lend0, ev_lend1, ev_lend2, ev_noS0, ev_noSd, ev_noSs, ev_back, ev_anyS0, ev_anySd, ev_anySs, ev_backF0, ev_backF1, ev_back1o, ev_back1d, ev_back1u, ev_got0, ev_gotd, ev_gots, ev_mItems, ev_itemsL, ev_itemsT, ev_mSigns, ev_mMeth, ev_chkL, ev_updO, ev_gAppend, ev_mSetIx, ev_gSet, ev_mRng, ev_rg1, ev_rg2, ev_mFor, ev_raise, ev_cI, ev_add, ev_sub, ev_abs, ev_max, ev_min, ev_inti, ev_intb, ev_lenL, ev_lenT, ev_lenS, ev_tupL, ev_tupT, ev_lstL, ev_lstT, ev_ixT, ev_ixL, ev_ixS, ev_at0, ev_at1, ev_at2, ev_at3, ev_at4, ev_at5, ev_at6, ev_at7, ev_ixN0, ev_ixN1, ev_is, ev_isnot, ev_isb, ev_isnotb, ev_addL, opEq_int, opNe_int, mSeq_def, isI, tyN, isN, opLt, opLe, opGt, opGe,
    List.getElem?_cons_zero, List.getElem?_cons_succ, List.getElem?_nil, List.set_cons_zero, List.set_cons_succ, List.length_cons, List.length_nil, List.cons_append, List.nil_append, List.replicate, List.append_nil, decide_true, decide_false, Int.reduceLT, Int.reduceLE, Int.reduceGT, Int.reduceGE, Int.reduceEq, Int.reduceNe, Int.reduceAdd, Int.reduceSub, Int.reduceMul, Int.reduceNeg, Int.reduceToNat, Int.reducePow, Nat.reduceAdd, Nat.reduceLT, Nat.reduceLeDiff, Nat.reduceEqDiff, Nat.reduceBNe, Nat.reduceBEq, gt_iff_lt, ge_iff_le, Bool.and_true, Bool.true_and, Bool.false_and, Bool.and_false, String.reduceBEq, Bool.or_false, Bool.or_true, Bool.true_or, Bool.false_or, and_true, true_and, not_true_eq_false, not_false_eq_true, ne_eq, true_or, or_true, false_or, or_false, and_false, false_and, if_true, if_false, Bool.not_true, Bool.not_false, reduceCtorEq, -ev_rg1, hn, hu, hr]))
  have key : ∃ ρ', forL (gN 2) w_law_3 (rangeL 0 m) [.d (scrD ns), .own false (.l []), .un, .un, .un, .un, .un, .un] = some (.ok .nx ρ') ∧ ∃ (M : List (Int × Int × Int)) (T' : Fr), ρ' = (.d (scrD ns) :: .own false (.l (M.map pr)) :: T') ∧ T6 T' ∧ (∀ x ∈ M, NB x) ∧ M.length + 6 * ([] : List D).length ≤ 36 ∧ ∀ z ∈ ([] : List D), ∃ i : Nat, i < 64 ∧ z = .int i := by
    refine forL_inv (fun xs ρ => ∃ (M : List (Int × Int × Int)) (T' : Fr), ρ = (.d (scrD ns) :: .own false (.l (M.map pr)) :: T') ∧ T6 T' ∧ (∀ x ∈ M, NB x) ∧ M.length + 6 * xs.length ≤ 36 ∧ ∀ z ∈ xs, ∃ i : Nat, i < 64 ∧ z = .int i) ⟨[], _, rfl, .inl rfl, by simp, by rw [rangeL_len]; simp; omega, ?_⟩ ?_
    · intro z hz
      unfold rangeL at hz
      obtain ⟨i, hi, rfl⟩ := List.mem_map.mp hz
      have := List.mem_range.mp hi
      exact ⟨i, by omega, by rw [Int.zero_add]⟩
    · rintro t r ρ ⟨M, T, rfl, hT, hM, hlen, hz⟩
      have hlen : M.length + 6 * (r.length + 1) ≤ 36 := hlen
      obtain ⟨i, hi, rfl⟩ := hz _ (List.mem_cons_self ..)
      obtain ⟨o, ρb, e, ho⟩ := bag_ok ns i hi
      obtain ⟨T2, h1, hT2, h2⟩ : ∃ T2 : Fr, gN 2 (.int i) (.d (scrD ns) :: .own false (.l (M.map pr)) :: T) = some (.ok () (.d (scrD ns) :: .own false (.l (M.map pr)) :: T.set 0 (.d (.int i)))) ∧ T4 T2 ∧ (bnd (mOwn (mCall d__law_bag (ac (dr (rv 0)) (ac (dr (rv 2)) (DL.ret []))))) fun o => sto 3 (.own false o)) (.d (scrD ns) :: .own false (.l (M.map pr)) :: T.set 0 (.d (.int i))) = some (.ok .nx (.d (scrD ns) :: .own false (.l (M.map pr)) :: .d (.int i) :: .own false o :: T2)) := by
        rcases hT with rfl | ⟨k, o0, T', rfl, hT'⟩
        · refine ⟨[.un, .un, .un, .un], rfl, .inl rfl, ?_⟩
          iterate 3 (try (simp only [Int.cast_ofNat_Int, Int.natCast_zero, Int.natCast_one, ev_compL0, ev_compL1, ev_mTurn, ev_mComp, ev_wipe0, ev_wipe1, ev_rest0, ev_rest1, ev_isOwn0, ev_isOwn1, ev_con0, ev_con1, ev_all, ev_any, ev_bools0, ev_bools1, List.all_cons, List.all_nil, List.any_cons, List.any_nil, id_eq, ev_bnd, ev_ret, ev_fail, ev_lift, ev_lift0, ev_opnd, ev_opnds, ev_slD, ev_ra, ev_rv, ev_mBin, ev_mBinO, ev_dr, ev_dz, ev_doz, ev_ode, ev_ac, ev_mB1, ev_mBO, ev_opndsL, ev_rsvs0, ev_rsvs1, ev_rsvd, ev_rsvs, ev_bindS, ev_mTrue, ev_mB, ev_mAnd, ev_mOr, ev_mNot, ev_mIf, ev_mTup, ev_mLst, ev_argsD0, ev_argsD1, ev_vals, ev_mRet, ev_sto, ev_sto2, ev_mPar2, ev_mPar3, ev_gN, ev_gTt, ev_gTl, ev_tgt0, ev_tgt1, ev_gF, ev_fzd, ev_fzo, ev_mOwn, ev_mOut, ev_mIsI, ev_mNeg, ev_opNeg, ev_mSl, ev_mSlL, ev_slcT, ev_slcL, ev_mPart, ev_mRev, ev_mStr1, ev_mChain, ev_mFun, ev_mask0, ev_mask1, ev_mk1o, ev_mk1f, ev_mk1d, ev_mk1u, ev_mCall, ev_lend0, ev_lend1, ev_lend2, ev_noS0, ev_noSd, ev_noSs, ev_back, ev_anyS0, ev_anySd, ev_anySs, ev_backF0, ev_backF1, ev_back1o, ev_back1d, ev_back1u, ev_got0, ev_gotd, ev_gots, ev_mItems, ev_itemsL, ev_itemsT, ev_mSigns, ev_mMeth, ev_chkL, ev_updO, ev_gAppend, ev_mSetIx, ev_gSet, ev_mRng, ev_rg1, ev_rg2, ev_mFor, ev_raise, ev_cI, ev_add, ev_sub, ev_abs, ev_max, ev_min, ev_inti, ev_intb, ev_lenL, ev_lenT, ev_lenS, ev_tupL, ev_tupT, ev_lstL, ev_lstT, ev_ixT, ev_ixL, ev_ixS, ev_at0, ev_at1, ev_at2, ev_at3, ev_at4, ev_at5, ev_at6, ev_at7, ev_ixN0, ev_ixN1, ev_is, ev_isnot, ev_isb, ev_isnotb, ev_addL, opEq_int, opNe_int, mSeq_def, isI, tyN, isN, opLt, opLe, opGt, opGe,
    List.getElem?_cons_zero, List.getElem?_cons_succ, List.getElem?_nil, List.set_cons_zero, List.set_cons_succ, List.length_cons, List.length_nil, List.cons_append, List.nil_append, List.replicate, List.append_nil, decide_true, decide_false, Int.reduceLT, Int.reduceLE, Int.reduceGT, Int.reduceGE, Int.reduceEq, Int.reduceNe, Int.reduceAdd, Int.reduceSub, Int.reduceMul, Int.reduceNeg, Int.reduceToNat, Int.reducePow, Nat.reduceAdd, Nat.reduceLT, Nat.reduceLeDiff, Nat.reduceEqDiff, Nat.reduceBNe, Nat.reduceBEq, gt_iff_lt, ge_iff_le, Bool.and_true, Bool.true_and, Bool.false_and, Bool.and_false, String.reduceBEq, Bool.or_false, Bool.or_true, Bool.true_or, Bool.false_or, and_true, true_and, not_true_eq_false, not_false_eq_true, ne_eq, true_or, or_true, false_or, or_false, and_false, false_and, if_true, if_false, Bool.not_true, Bool.not_false, reduceCtorEq, e]))
        · refine ⟨T', rfl, hT', ?_⟩
          iterate 3 (try (simp only [Int.cast_ofNat_Int, Int.natCast_zero, Int.natCast_one, ev_compL0, ev_compL1, ev_mTurn, ev_mComp, ev_wipe0, ev_wipe1, ev_rest0, ev_rest1, ev_isOwn0, ev_isOwn1, ev_con0, ev_con1, ev_all, ev_any, ev_bools0, ev_bools1, List.all_cons, List.all_nil, List.any_cons, List.any_nil, id_eq, ev_bnd, ev_ret, ev_fail, ev_lift, ev_lift0, ev_opnd, ev_opnds, ev_slD, ev_ra, ev_rv, ev_mBin, ev_mBinO, ev_dr, ev_dz, ev_doz, ev_ode, ev_ac, ev_mB1, ev_mBO, ev_opndsL, ev_rsvs0, ev_rsvs1, ev_rsvd, ev_rsvs, ev_bindS, ev_mTrue, ev_mB, ev_mAnd, ev_mOr, ev_mNot, ev_mIf, ev_mTup, ev_mLst, ev_argsD0, ev_argsD1, ev_vals, ev_mRet, ev_sto, ev_sto2, ev_mPar2, ev_mPar3, ev_gN, ev_gTt, ev_gTl, ev_tgt0, ev_tgt1, ev_gF, ev_fzd, ev_fzo, ev_mOwn, ev_mOut, ev_mIsI, ev_mNeg, ev_opNeg, ev_mSl, ev_mSlL, ev_slcT, ev_slcL, ev_mPart, ev_mRev, ev_mStr1, ev_mChain, ev_mFun, ev_mask0, ev_mask1, ev_mk1o, ev_mk1f, ev_mk1d, ev_mk1u, ev_mCall, ev_lend0, ev_lend1, ev_lend2, ev_noS0, ev_noSd, ev_noSs, ev_back, ev_anyS0, ev_anySd, ev_anySs, ev_backF0, ev_backF1, ev_back1o, ev_back1d, ev_back1u, ev_got0, ev_gotd, ev_gots, ev_mItems, ev_itemsL, ev_itemsT, ev_mSigns, ev_mMeth, ev_chkL, ev_updO, ev_gAppend, ev_mSetIx, ev_gSet, ev_mRng, ev_rg1, ev_rg2, ev_mFor, ev_raise, ev_cI, ev_add, ev_sub, ev_abs, ev_max, ev_min, ev_inti, ev_intb, ev_lenL, ev_lenT, ev_lenS, ev_tupL, ev_tupT, ev_lstL, ev_lstT, ev_ixT, ev_ixL, ev_ixS, ev_at0, ev_at1, ev_at2, ev_at3, ev_at4, ev_at5, ev_at6, ev_at7, ev_ixN0, ev_ixN1, ev_is, ev_isnot, ev_isb, ev_isnotb, ev_addL, opEq_int, opNe_int, mSeq_def, isI, tyN, isN, opLt, opLe, opGt, opGe,
    List.getElem?_cons_zero, List.getElem?_cons_succ, List.getElem?_nil, List.set_cons_zero, List.set_cons_succ, List.length_cons, List.length_nil, List.cons_append, List.nil_append, List.replicate, List.append_nil, decide_true, decide_false, Int.reduceLT, Int.reduceLE, Int.reduceGT, Int.reduceGE, Int.reduceEq, Int.reduceNe, Int.reduceAdd, Int.reduceSub, Int.reduceMul, Int.reduceNeg, Int.reduceToNat, Int.reducePow, Nat.reduceAdd, Nat.reduceLT, Nat.reduceLeDiff, Nat.reduceEqDiff, Nat.reduceBNe, Nat.reduceBEq, gt_iff_lt, ge_iff_le, Bool.and_true, Bool.true_and, Bool.false_and, Bool.and_false, String.reduceBEq, Bool.or_false, Bool.or_true, Bool.true_or, Bool.false_or, and_true, true_and, not_true_eq_false, not_false_eq_true, ne_eq, true_or, or_true, false_or, or_false, and_false, false_and, if_true, if_false, Bool.not_true, Bool.not_false, reduceCtorEq, e]))
      obtain ⟨M', o', T', e3, hT3, ho3, hM3, hl3⟩ := turns_ok (s := scrD ns) (k := .int i) (L := M) hT2 ho hM (by omega)
      refine ⟨_, .d (scrD ns) :: .own false (.l (M'.map pr)) :: .d (.int i) :: .own false o' :: T', h1, ?_, M', _, rfl, .inr ⟨_, _, _, rfl, hT3⟩, hM3, by omega, fun z h => hz z (List.mem_cons_of_mem _ h)⟩
      unfold w_law_3
      rw [mSeq_nx h2, e3]
  obtain ⟨ρ', e, M, T', rfl, h1, h2, _⟩ := key
  refine ⟨M, T', ?_, h1, h2⟩
  unfold l_law_3
  rw [ev_mFor, bnd_of hm, e]
theorem again_ok {s : D} {M : List (Int × Int × Int)} {T : Fr} (hT : T6 T) (hM : ∀ x ∈ M, NB x) : ∃ ρ', l_law_1 (.d s :: .own false (.l (M.map pr)) :: T) = some (.ok .nx ρ') := by
  have h0 : mItems (rv 1) (.d s :: .own false (.l (M.map pr)) :: T) = some (.ok (M.map pr) (.d s :: .d (.list (M.map pr)) :: T)) := rfl
  have key : ∃ ρ', forL (gT [(gN 5), (gN 6)]) w_law_1 (M.map pr) (.d s :: .d (.list (M.map pr)) :: T) = some (.ok .nx ρ') ∧ ∃ (a b c d e f : Sl), ρ' = [.d s, .d (.list (M.map pr)), a, b, c, d, e, f] ∧ (d = .un ∨ ∃ x, d = .d x) ∧ (e = .un ∨ ∃ x, e = .d x) ∧ ∀ z ∈ ([] : List D), ∃ x, NB x ∧ z = pr x := by
    refine forL_inv (fun xs ρ => ∃ (a b c d e f : Sl), ρ = [.d s, .d (.list (M.map pr)), a, b, c, d, e, f] ∧ (d = .un ∨ ∃ x, d = .d x) ∧ (e = .un ∨ ∃ x, e = .d x) ∧ ∀ z ∈ xs, ∃ x, NB x ∧ z = pr x) ?_ ?_
    · have hz : ∀ z ∈ M.map pr, ∃ x, NB x ∧ z = pr x := fun z hz => by
        obtain ⟨x, hx, rfl⟩ := List.mem_map.mp hz
        exact ⟨x, hM x hx, rfl⟩
      rcases hT with rfl | ⟨k, o, T', rfl, rfl | ⟨p, q, r, t, rfl⟩⟩
      · exact ⟨_, _, _, _, _, _, rfl, .inl rfl, .inl rfl, hz⟩
      · exact ⟨_, _, _, _, _, _, rfl, .inl rfl, .inl rfl, hz⟩
      · exact ⟨_, _, _, _, _, _, rfl, .inr ⟨_, rfl⟩, .inr ⟨_, rfl⟩, hz⟩
    · rintro z r ρ ⟨a, b, c, d, e, f, rfl, hd, he, hz⟩
      obtain ⟨x, hx, rfl⟩ := hz _ (List.mem_cons_self ..)
      have e1 := NB_show hx
      have e3 := read_ok hx
      refine ⟨[.d s, .d (.list (M.map pr)), a, b, c, .d (num x), .d (S (showL x)), f], [.d s, .d (.list (M.map pr)), a, b, c, .d (num x), .d (S (showL x)), f], ?_, ?_, _, _, _, _, _, _, rfl, .inr ⟨_, rfl⟩, .inr ⟨_, rfl⟩, fun z h => hz z (List.mem_cons_of_mem _ h)⟩
      · unfold pr
        rcases hd with rfl | ⟨x, rfl⟩ <;> rcases he with rfl | ⟨y, rfl⟩ <;> (iterate 3 (try (simp only [Int.cast_ofNat_Int, Int.natCast_zero, Int.natCast_one, ev_compL0, ev_compL1, ev_mTurn, ev_mComp, ev_wipe0, ev_wipe1, ev_rest0, ev_rest1, ev_isOwn0, ev_isOwn1, ev_con0, ev_con1, ev_all, ev_any, ev_bools0, ev_bools1, List.all_cons, List.all_nil, List.any_cons, List.any_nil, id_eq, ev_bnd, ev_ret, ev_fail, ev_lift, ev_lift0, ev_opnd, ev_opnds, ev_slD, ev_ra, ev_rv, ev_mBin, ev_mBinO, ev_dr, ev_dz, ev_doz, ev_ode, ev_ac, ev_mB1, ev_mBO, ev_opndsL, ev_rsvs0, ev_rsvs1, ev_rsvd, ev_rsvs, ev_bindS, ev_mTrue, ev_mB, ev_mAnd, ev_mOr, ev_mNot, ev_mIf, ev_mTup, ev_mLst, ev_argsD0, ev_argsD1, ev_vals, ev_mRet, ev_sto, ev_sto2, ev_mPar2, ev_mPar3, ev_gN, ev_gTt, ev_gTl, ev_tgt0, ev_tgt1, ev_gF, ev_fzd, ev_fzo, ev_mOwn, ev_mOut, ev_mIsI, ev_mNeg, ev_opNeg, ev_mSl, ev_mSlL, ev_slcT, ev_slcL, ev_mPart, ev_mRev, ev_mStr1, ev_mChain, ev_mFun, ev_mask0, ev_mask1, ev_mk1o, ev_mk1f, ev_mk1d, ev_mk1u, ev_mCall, ev_lend0, ev_lend1, ev_lend2, ev_noS0, ev_noSd, ev_noSs, ev_back, ev_anyS0, ev_anySd, ev_anySs, ev_backF0, ev_backF1, ev_back1o, ev_back1d, ev_back1u, ev_got0, ev_gotd, ev_gots, ev_mItems, ev_itemsL, ev_itemsT, ev_mSigns, ev_mMeth, ev_chkL, ev_updO, ev_gAppend, ev_mSetIx, ev_gSet, ev_mRng, ev_rg1, ev_rg2, ev_mFor, ev_raise, ev_cI, ev_add, ev_sub, ev_abs, ev_max, ev_min, ev_inti, ev_intb, ev_lenL, ev_lenT, ev_lenS, ev_tupL, ev_tupT, ev_lstL, ev_lstT, ev_ixT, ev_ixL, ev_ixS, ev_at0, ev_at1, ev_at2, ev_at3, ev_at4, ev_at5, ev_at6, ev_at7, ev_ixN0, ev_ixN1, ev_is, ev_isnot, ev_isb, ev_isnotb, ev_addL, opEq_int, opNe_int, mSeq_def, isI, tyN, isN, opLt, opLe, opGt, opGe,
    List.getElem?_cons_zero, List.getElem?_cons_succ, List.getElem?_nil, List.set_cons_zero, List.set_cons_succ, List.length_cons, List.length_nil, List.cons_append, List.nil_append, List.replicate, List.append_nil, decide_true, decide_false, Int.reduceLT, Int.reduceLE, Int.reduceGT, Int.reduceGE, Int.reduceEq, Int.reduceNe, Int.reduceAdd, Int.reduceSub, Int.reduceMul, Int.reduceNeg, Int.reduceToNat, Int.reducePow, Nat.reduceAdd, Nat.reduceLT, Nat.reduceLeDiff, Nat.reduceEqDiff, Nat.reduceBNe, Nat.reduceBEq, gt_iff_lt, ge_iff_le, Bool.and_true, Bool.true_and, Bool.false_and, Bool.and_false, String.reduceBEq, Bool.or_false, Bool.or_true, Bool.true_or, Bool.false_or, and_true, true_and, not_true_eq_false, not_false_eq_true, ne_eq, true_or, or_true, false_or, or_false, and_false, false_and, if_true, if_false, Bool.not_true, Bool.not_false, reduceCtorEq])))
      · unfold w_law_1
        iterate 3 (try (simp only [Int.cast_ofNat_Int, Int.natCast_zero, Int.natCast_one, ev_compL0, ev_compL1, ev_mTurn, ev_mComp, ev_wipe0, ev_wipe1, ev_rest0, ev_rest1, ev_isOwn0, ev_isOwn1, ev_con0, ev_con1, ev_all, ev_any, ev_bools0, ev_bools1, List.all_cons, List.all_nil, List.any_cons, List.any_nil, id_eq, ev_bnd, ev_ret, ev_fail, ev_lift, ev_lift0, ev_opnd, ev_opnds, ev_slD, ev_ra, ev_rv, ev_mBin, ev_mBinO, ev_dr, ev_dz, ev_doz, ev_ode, ev_ac, ev_mB1, ev_mBO, ev_opndsL, ev_rsvs0, ev_rsvs1, ev_rsvd, ev_rsvs, ev_bindS, ev_mTrue, ev_mB, ev_mAnd, ev_mOr, ev_mNot, ev_mIf, ev_mTup, ev_mLst, ev_argsD0, ev_argsD1, ev_vals, ev_mRet, ev_sto, ev_sto2, ev_mPar2, ev_mPar3, ev_gN, ev_gTt, ev_gTl, ev_tgt0, ev_tgt1, ev_gF, ev_fzd, ev_fzo, ev_mOwn, ev_mOut, ev_mIsI, ev_mNeg, ev_opNeg, ev_mSl, ev_mSlL, ev_slcT, ev_slcL, ev_mPart, ev_mRev, ev_mStr1, ev_mChain, ev_mFun, ev_mask0, ev_mask1, ev_mk1o, ev_mk1f, ev_mk1d, ev_mk1u, ev_mCall, ev_lend0, ev_lend1, ev_lend2, ev_noS0, ev_noSd, ev_noSs, ev_back, ev_anyS0, ev_anySd, ev_anySs, ev_backF0, ev_backF1, ev_back1o, ev_back1d, ev_back1u, ev_got0, ev_gotd, ev_gots, ev_mItems, ev_itemsL, ev_itemsT, ev_mSigns, ev_mMeth, ev_chkL, ev_updO, ev_gAppend, ev_mSetIx, ev_gSet, ev_mRng, ev_rg1, ev_rg2, ev_mFor, ev_raise, ev_cI, ev_add, ev_sub, ev_abs, ev_max, ev_min, ev_inti, ev_intb, ev_lenL, ev_lenT, ev_lenS, ev_tupL, ev_tupT, ev_lstL, ev_lstT, ev_ixT, ev_ixL, ev_ixS, ev_at0, ev_at1, ev_at2, ev_at3, ev_at4, ev_at5, ev_at6, ev_at7, ev_ixN0, ev_ixN1, ev_is, ev_isnot, ev_isb, ev_isnotb, ev_addL, opEq_int, opNe_int, mSeq_def, isI, tyN, isN, opLt, opLe, opGt, opGe,
    List.getElem?_cons_zero, List.getElem?_cons_succ, List.getElem?_nil, List.set_cons_zero, List.set_cons_succ, List.length_cons, List.length_nil, List.cons_append, List.nil_append, List.replicate, List.append_nil, decide_true, decide_false, Int.reduceLT, Int.reduceLE, Int.reduceGT, Int.reduceGE, Int.reduceEq, Int.reduceNe, Int.reduceAdd, Int.reduceSub, Int.reduceMul, Int.reduceNeg, Int.reduceToNat, Int.reducePow, Nat.reduceAdd, Nat.reduceLT, Nat.reduceLeDiff, Nat.reduceEqDiff, Nat.reduceBNe, Nat.reduceBEq, gt_iff_lt, ge_iff_le, Bool.and_true, Bool.true_and, Bool.false_and, Bool.and_false, String.reduceBEq, Bool.or_false, Bool.or_true, Bool.true_or, Bool.false_or, and_true, true_and, not_true_eq_false, not_false_eq_true, ne_eq, true_or, or_true, false_or, or_false, and_false, false_and, if_true, if_false, Bool.not_true, Bool.not_false, reduceCtorEq, e1, e3, opNe_S, opNe_num]))
  obtain ⟨ρ', e, _⟩ := key
  refine ⟨ρ', ?_⟩
  unfold l_law_1
  rw [ev_mFor, bnd_of h0, e]
theorem law_holds : ∀ ns : List Int, (ns.length ≤ 63 ∧ ∀ z ∈ ns, Builtin.Int.intBits z ≤ 1048576) → ∃ ρ, d_law [.d (scrD ns)] = some (.ok (.d (.bool true)) ρ) := by
  intro ns _
  obtain ⟨M, T, e1, hT, hM⟩ := bags_ok ns
  obtain ⟨ρ, e2⟩ := again_ok (s := scrD ns) hT hM
  refine ⟨mask 1 ρ, ?_⟩
  have s1 : d_show_number [.d (.tuple [.int 0, .int (-1), .int 1])] = some (.ok (.d (S [45, 114])) [.un]) := show_ok (x := (0, -1, 1)) (by decide) (by decide) (by decide)
  have s2 : d_show_number [.d (.tuple [.int 1, .int (-1), .int 2])] = some (.ok (.d (S [40, 49, 45, 114, 41, 47, 50])) [.un]) := by
    have e : showL (1, -1, 2) = [40, 49, 45, 114, 41, 47, 50] := by decide +kernel
    rw [← e]
    exact show_ok (x := (1, -1, 2)) (by decide) (by decide) (by decide)
  have s3 : d_read_number [.d (S [48])] = some (.ok (.d (num (0, 0, 1))) [.un]) := by
    have e : showL (0, 0, 1) = [48] := by decide +kernel
    rw [← e]
    exact read_ok (x := (0, 0, 1)) ⟨⟨by decide, by decide⟩, by decide, by decide, by decide⟩
  have l1 : (PyData.str "(1-r)/2") = S [40, 49, 45, 114, 41, 47, 50] := rfl
  have l2 : (PyData.tuple [.int 0, .int 0, .int 1]) = num (0, 0, 1) := rfl
  have sz3 : (3 : Nat) ≤ sizeLine := by decide
  have e0 : (bnd (mLst (DL.ret [])) fun o => sto 1 (.own false o)) [.d (scrD ns), .un, .un, .un, .un, .un, .un, .un] = some (.ok .nx [.d (scrD ns), .own false (.l []), .un, .un, .un, .un, .un, .un]) := rfl
  unfold d_law b_law
  rw [ev_mFun]
  have er : ([.d (scrD ns)] ++ List.replicate 7 Sl.un : Fr) = [.d (scrD ns), .un, .un, .un, .un, .un, .un, .un] := rfl
  rw [er, mSeq_nx e0, mSeq_nx e1, mSeq_nx e2]
  iterate 3 (try (simp only [Int.cast_ofNat_Int, Int.natCast_zero, Int.natCast_one, ev_compL0, ev_compL1, ev_mTurn, ev_mComp, ev_wipe0, ev_wipe1, ev_rest0, ev_rest1, ev_isOwn0, ev_isOwn1, ev_con0, ev_con1, ev_all, ev_any, ev_bools0, ev_bools1, List.all_cons, List.all_nil, List.any_cons, List.any_nil, id_eq, ev_bnd, ev_ret, ev_fail, ev_lift, ev_lift0, ev_opnd, ev_opnds, ev_slD, ev_ra, ev_rv, ev_mBin, ev_mBinO, ev_dr, ev_dz, ev_doz, ev_ode, ev_ac, ev_mB1, ev_mBO, ev_opndsL, ev_rsvs0, ev_rsvs1, ev_rsvd, ev_rsvs, ev_bindS, ev_mTrue, ev_mB, ev_mAnd, ev_mOr, ev_mNot, ev_mIf, ev_mTup, ev_mLst, ev_argsD0, ev_argsD1, ev_vals, ev_mRet, ev_sto, ev_sto2, ev_mPar2, ev_mPar3, ev_gN, ev_gTt, ev_gTl, ev_tgt0, ev_tgt1, ev_gF, ev_fzd, ev_fzo, ev_mOwn, ev_mOut, ev_mIsI, ev_mNeg, ev_opNeg, ev_mSl, ev_mSlL, ev_slcT, ev_slcL, ev_mPart, ev_mRev, ev_mStr1, ev_mChain, ev_mFun, ev_mask0, ev_mask1, ev_mk1o, ev_mk1f, ev_mk1d, ev_mk1u, ev_mCall, ev_lend0, ev_lend1, ev_lend2, ev_noS0, ev_noSd, ev_noSs, ev_back, ev_anyS0, ev_anySd, ev_anySs, ev_backF0, ev_backF1, ev_back1o, ev_back1d, ev_back1u, ev_got0, ev_gotd, ev_gots, ev_mItems, ev_itemsL, ev_itemsT, ev_mSigns, ev_mMeth, ev_chkL, ev_updO, ev_gAppend, ev_mSetIx, ev_gSet, ev_mRng, ev_rg1, ev_rg2, ev_mFor, ev_raise, ev_cI, ev_add, ev_sub, ev_abs, ev_max, ev_min, ev_inti, ev_intb, ev_lenL, ev_lenT, ev_lenS, ev_tupL, ev_tupT, ev_lstL, ev_lstT, ev_ixT, ev_ixL, ev_ixS, ev_at0, ev_at1, ev_at2, ev_at3, ev_at4, ev_at5, ev_at6, ev_at7, ev_ixN0, ev_ixN1, ev_is, ev_isnot, ev_isb, ev_isnotb, ev_addL, opEq_int, opNe_int, mSeq_def, isI, tyN, isN, opLt, opLe, opGt, opGe,
    List.getElem?_cons_zero, List.getElem?_cons_succ, List.getElem?_nil, List.set_cons_zero, List.set_cons_succ, List.length_cons, List.length_nil, List.cons_append, List.nil_append, List.replicate, List.append_nil, decide_true, decide_false, Int.reduceLT, Int.reduceLE, Int.reduceGT, Int.reduceGE, Int.reduceEq, Int.reduceNe, Int.reduceAdd, Int.reduceSub, Int.reduceMul, Int.reduceNeg, Int.reduceToNat, Int.reducePow, Nat.reduceAdd, Nat.reduceLT, Nat.reduceLeDiff, Nat.reduceEqDiff, Nat.reduceBNe, Nat.reduceBEq, gt_iff_lt, ge_iff_le, Bool.and_true, Bool.true_and, Bool.false_and, Bool.and_false, String.reduceBEq, Bool.or_false, Bool.or_true, Bool.true_or, Bool.false_or, and_true, true_and, not_true_eq_false, not_false_eq_true, ne_eq, true_or, or_true, false_or, or_false, and_false, false_and, if_true, if_false, Bool.not_true, Bool.not_false, reduceCtorEq, s1, s2, s3, l1, l2, lit_mr, lit_z, opEq_S, opEq_num, sz3]))


end My
end
section
set_option maxHeartbeats 4000000
namespace My
open PySem PySem.Spec L2 DL
open PyProof.Rows hiding St
def dd_is_whole : He.DefD := ⟨("is_whole", none), "is_whole", "is_whole", defArgs s_is_whole, defBody s_is_whole, defScope s_is_whole, [], []⟩
def dd_shared : He.DefD := ⟨("shared", none), "shared", "shared", defArgs s_shared, defBody s_shared, defScope s_shared, [], []⟩
def dd_is_number : He.DefD := ⟨("is_number", none), "is_number", "is_number", defArgs s_is_number, defBody s_is_number, defScope s_is_number, [], []⟩
def dd_root_text : He.DefD := ⟨("root_text", none), "root_text", "root_text", defArgs s_root_text, defBody s_root_text, defScope s_root_text, [], []⟩
def dd_show_number : He.DefD := ⟨("show_number", none), "show_number", "show_number", defArgs s_show_number, defBody s_show_number, defScope s_show_number, [], []⟩
def dd_whole_of : He.DefD := ⟨("whole_of", none), "whole_of", "whole_of", defArgs s_whole_of, defBody s_whole_of, defScope s_whole_of, [], []⟩
def dd_roots_of : He.DefD := ⟨("roots_of", none), "roots_of", "roots_of", defArgs s_roots_of, defBody s_roots_of, defScope s_roots_of, [], []⟩
def dd_top_of : He.DefD := ⟨("top_of", none), "top_of", "top_of", defArgs s_top_of, defBody s_top_of, defScope s_top_of, [], []⟩
def dd_number_in : He.DefD := ⟨("number_in", none), "number_in", "number_in", defArgs s_number_in, defBody s_number_in, defScope s_number_in, [], []⟩
def dd_number_by : He.DefD := ⟨("number_by", none), "number_by", "number_by", defArgs s_number_by, defBody s_number_by, defScope s_number_by, [], []⟩
def dd_read_number : He.DefD := ⟨("read_number", none), "read_number", "read_number", defArgs s_read_number, defBody s_read_number, defScope s_read_number, [], []⟩
def dd__law_bag : He.DefD := ⟨("_law_bag", none), "_law_bag", "_law_bag", defArgs s__law_bag, defBody s__law_bag, defScope s__law_bag, [], []⟩
def dd__law_take : He.DefD := ⟨("_law_take", none), "_law_take", "_law_take", defArgs s__law_take, defBody s__law_take, defScope s__law_take, [], []⟩
def dd__law_is_whole : He.DefD := ⟨("_law_is_whole", none), "_law_is_whole", "_law_is_whole", defArgs s__law_is_whole, defBody s__law_is_whole, defScope s__law_is_whole, [], []⟩
def dd__law_shared : He.DefD := ⟨("_law_shared", none), "_law_shared", "_law_shared", defArgs s__law_shared, defBody s__law_shared, defScope s__law_shared, [], []⟩
def dd__law_low : He.DefD := ⟨("_law_low", none), "_law_low", "_law_low", defArgs s__law_low, defBody s__law_low, defScope s__law_low, [], []⟩
def dd__law_is_number : He.DefD := ⟨("_law_is_number", none), "_law_is_number", "_law_is_number", defArgs s__law_is_number, defBody s__law_is_number, defScope s__law_is_number, [], []⟩
def dd__law_number : He.DefD := ⟨("_law_number", none), "_law_number", "_law_number", defArgs s__law_number, defBody s__law_number, defScope s__law_number, [], []⟩
def dd__law_roots : He.DefD := ⟨("_law_roots", none), "_law_roots", "_law_roots", defArgs s__law_roots, defBody s__law_roots, defScope s__law_roots, [], []⟩
def dd__law_text : He.DefD := ⟨("_law_text", none), "_law_text", "_law_text", defArgs s__law_text, defBody s__law_text, defScope s__law_text, [], []⟩
def dd__law_digits : He.DefD := ⟨("_law_digits", none), "_law_digits", "_law_digits", defArgs s__law_digits, defBody s__law_digits, defScope s__law_digits, [], []⟩
def dd__law_any_number : He.DefD := ⟨("_law_any_number", none), "_law_any_number", "_law_any_number", defArgs s__law_any_number, defBody s__law_any_number, defScope s__law_any_number, [], []⟩
def dd_law : He.DefD := ⟨("law", none), "law", "law", defArgs s_law, defBody s_law, defScope s_law, [], []⟩
def hfn : List He.DefD := [dd_is_whole, dd_shared, dd_is_number, dd_root_text, dd_show_number, dd_whole_of, dd_roots_of, dd_top_of, dd_number_in, dd_number_by, dd_read_number, dd__law_bag, dd__law_take, dd__law_is_whole, dd__law_shared, dd__law_low, dd__law_is_number, dd__law_number, dd__law_roots, dd__law_text, dd__law_digits, dd__law_any_number, dd_law]
def hfas : List He.Fa := [.free "abs", .free "all", .free "any", .free "bool", .free "enumerate", .free "int", .free "isinstance", .free "len", .free "list", .free "max", .free "min", .free "range", .free "reversed", .free "set", .free "sorted", .free "str", .free "sum", .free "tuple", .free "zip", .glo "is_whole", .glo "shared", .glo "is_number", .glo "root_text", .glo "show_number", .glo "whole_of", .glo "roots_of", .glo "top_of", .glo "number_in", .glo "number_by", .glo "read_number", .glo "_law_bag", .glo "_law_take", .glo "_law_is_whole", .glo "_law_shared", .glo "_law_low", .glo "_law_is_number", .glo "_law_number", .glo "_law_roots", .glo "_law_text", .glo "_law_digits", .glo "_law_any_number", .glo "law", .str "FIGURES" "0123456789", .int "MOST_FIGURES" 40, .glo "NoText", .exc "NoText"]
def hex (K : PySem.W.Frag) : Bool := true
abbrev hR : PySem.W.OpenRow := PySem.W.OpenLaw.row PySem.Challenge.rw_matefloors_k47_numbers_written
abbrev hk : PySem.W.Hook := He.hookX 4 hfas hfn [] [] hex
def hob (s : PySem.W.SharedT) : He.AlX := He.obsX 4 hfas hfn [] [] hex (HandSHeadRun.getT s)
theorem hob_eq (s : PySem.W.SharedT) : hob s = hk.obs s.abs := He.obsX_eq (HandSHeadRun.getT_eq s)
def hloose : List PySem.Str := (["FloorError", "NoText", "is_whole", "shared", "is_number", "FIGURES", "MOST_FIGURES", "root_text", "show_number", "whole_of", "roots_of", "top_of", "number_in", "number_by", "read_number", "_law_bag", "_law_take", "_law_is_whole", "_law_shared", "_law_low", "_law_is_number", "_law_number", "_law_roots", "_law_text", "_law_any_number", "_law_digits"] : List PySem.Str)
set_option maxHeartbeats 0 in
theorem hrun (w : World) : HandSHeadRun.RunEq hR (PySem.W.view hR.prog [30]) hk hob 6000 hloose w := by
  intro os
  kernel_rfl
set_option maxHeartbeats 0 in
theorem hfacts {P : Program} {w : World} {K : PySem.W.Frag} {h : Heap} {mg : Str → Option Value} {f : Addr} (X : K.In h) (G : h.Ns PySem.mainGlobals mg) (hfa : mg ("law" : Str) = some (.ref f)) (c : He.SaysD hfas hfn K) (cx : hex K = true) :
    ∃ fd : FuncData, (∀ (s : Shared) (v : Value), BindsTo s fd ⟨[v], []⟩ [("_law_script", v)]) ∧ ∀ base : Heap, FnOk P w K mg base (L2.CX P w) 7 f fd ["_law_script"] (spG K mg 1 d_law) := by
  obtain ⟨fd_is_whole, F_is_whole⟩ := c.def_ 0 (d := dd_is_whole) rfl
  obtain ⟨fd_shared, F_shared⟩ := c.def_ 1 (d := dd_shared) rfl
  obtain ⟨fd_is_number, F_is_number⟩ := c.def_ 2 (d := dd_is_number) rfl
  obtain ⟨fd_root_text, F_root_text⟩ := c.def_ 3 (d := dd_root_text) rfl
  obtain ⟨fd_show_number, F_show_number⟩ := c.def_ 4 (d := dd_show_number) rfl
  obtain ⟨fd_whole_of, F_whole_of⟩ := c.def_ 5 (d := dd_whole_of) rfl
  obtain ⟨fd_roots_of, F_roots_of⟩ := c.def_ 6 (d := dd_roots_of) rfl
  obtain ⟨fd_top_of, F_top_of⟩ := c.def_ 7 (d := dd_top_of) rfl
  obtain ⟨fd_number_in, F_number_in⟩ := c.def_ 8 (d := dd_number_in) rfl
  obtain ⟨fd_number_by, F_number_by⟩ := c.def_ 9 (d := dd_number_by) rfl
  obtain ⟨fd_read_number, F_read_number⟩ := c.def_ 10 (d := dd_read_number) rfl
  obtain ⟨fd__law_bag, F__law_bag⟩ := c.def_ 11 (d := dd__law_bag) rfl
  obtain ⟨fd__law_take, F__law_take⟩ := c.def_ 12 (d := dd__law_take) rfl
  obtain ⟨fd__law_is_whole, F__law_is_whole⟩ := c.def_ 13 (d := dd__law_is_whole) rfl
  obtain ⟨fd__law_shared, F__law_shared⟩ := c.def_ 14 (d := dd__law_shared) rfl
  obtain ⟨fd__law_low, F__law_low⟩ := c.def_ 15 (d := dd__law_low) rfl
  obtain ⟨fd__law_is_number, F__law_is_number⟩ := c.def_ 16 (d := dd__law_is_number) rfl
  obtain ⟨fd__law_number, F__law_number⟩ := c.def_ 17 (d := dd__law_number) rfl
  obtain ⟨fd__law_roots, F__law_roots⟩ := c.def_ 18 (d := dd__law_roots) rfl
  obtain ⟨fd__law_text, F__law_text⟩ := c.def_ 19 (d := dd__law_text) rfl
  obtain ⟨fd__law_digits, F__law_digits⟩ := c.def_ 20 (d := dd__law_digits) rfl
  obtain ⟨fd__law_any_number, F__law_any_number⟩ := c.def_ 21 (d := dd__law_any_number) rfl
  obtain ⟨fd_law, F_law⟩ := c.def_ 22 (d := dd_law) rfl
  have e := hfa.symm.trans (He.glo_ok X G (c.fact 41 (f := .glo "law") rfl))
  cases e
  have BB : Blt mg := ⟨He.free_ok X G (c.fact 0 (f := .free "abs") rfl), He.free_ok X G (c.fact 1 (f := .free "all") rfl), He.free_ok X G (c.fact 2 (f := .free "any") rfl), He.free_ok X G (c.fact 3 (f := .free "bool") rfl), He.free_ok X G (c.fact 4 (f := .free "enumerate") rfl), He.free_ok X G (c.fact 5 (f := .free "int") rfl), He.free_ok X G (c.fact 6 (f := .free "isinstance") rfl), He.free_ok X G (c.fact 7 (f := .free "len") rfl), He.free_ok X G (c.fact 8 (f := .free "list") rfl), He.free_ok X G (c.fact 9 (f := .free "max") rfl), He.free_ok X G (c.fact 10 (f := .free "min") rfl), He.free_ok X G (c.fact 11 (f := .free "range") rfl), He.free_ok X G (c.fact 12 (f := .free "reversed") rfl), He.free_ok X G (c.fact 13 (f := .free "set") rfl), He.free_ok X G (c.fact 14 (f := .free "sorted") rfl), He.free_ok X G (c.fact 15 (f := .free "str") rfl), He.free_ok X G (c.fact 16 (f := .free "sum") rfl), He.free_ok X G (c.fact 17 (f := .free "tuple") rfl), He.free_ok X G (c.fact 18 (f := .free "zip") rfl)⟩
  have k_FIGURES : Gc K mg "FIGURES" v_FIGURES := gc_str (He.str_ok X G (c.fact 42 (f := .str "FIGURES" "0123456789") rfl))
  have k_MOST_FIGURES : Gc K mg "MOST_FIGURES" v_MOST_FIGURES := gc_int (He.int_ok X G (c.fact 43 (f := .int "MOST_FIGURES" 40) rfl))
  have x_NoText : Xc K mg "NoText" := xc_mk (He.glo_ok X G (c.fact 44 (f := .glo "NoText") rfl)) (He.exc_ok (c.fact 45 (f := .exc "NoText") rfl))
  have bl := F_law.bindsA (ps := ["_law_script"]) fun _ _ _ _ _ _ us hl => match us, hl with | [_], _ => rfl
  refine ⟨fd_law, fun s v => bl s [v] rfl, fun base => ?_⟩
  have c_is_whole := ok_is_whole (P := P) (w := w) (base := base) F_is_whole (He.glo_ok X G (c.fact 19 (f := .glo "is_whole") rfl)) BB
  have c_shared := ok_shared (P := P) (w := w) (base := base) F_shared (He.glo_ok X G (c.fact 20 (f := .glo "shared") rfl)) BB
  have c_is_number := ok_is_number (P := P) (w := w) (base := base) F_is_number (He.glo_ok X G (c.fact 21 (f := .glo "is_number") rfl)) BB c_shared c_is_whole
  have c_root_text := ok_root_text (P := P) (w := w) (base := base) F_root_text (He.glo_ok X G (c.fact 22 (f := .glo "root_text") rfl)) BB
  have c_show_number := ok_show_number (P := P) (w := w) (base := base) F_show_number (He.glo_ok X G (c.fact 23 (f := .glo "show_number") rfl)) BB c_root_text
  have c_whole_of := ok_whole_of (P := P) (w := w) (base := base) F_whole_of (He.glo_ok X G (c.fact 24 (f := .glo "whole_of") rfl)) BB k_FIGURES k_MOST_FIGURES
  have c_roots_of := ok_roots_of (P := P) (w := w) (base := base) F_roots_of (He.glo_ok X G (c.fact 25 (f := .glo "roots_of") rfl)) BB c_whole_of
  have c_top_of := ok_top_of (P := P) (w := w) (base := base) F_top_of (He.glo_ok X G (c.fact 26 (f := .glo "top_of") rfl)) BB c_roots_of c_whole_of
  have c_number_in := ok_number_in (P := P) (w := w) (base := base) F_number_in (He.glo_ok X G (c.fact 27 (f := .glo "number_in") rfl)) BB c_is_number c_whole_of c_top_of
  have c_number_by := ok_number_by (P := P) (w := w) (base := base) F_number_by (He.glo_ok X G (c.fact 28 (f := .glo "number_by") rfl)) BB c_show_number c_number_in
  have c_read_number := ok_read_number (P := P) (w := w) (base := base) F_read_number (He.glo_ok X G (c.fact 29 (f := .glo "read_number") rfl)) BB c_number_by x_NoText
  have c__law_bag := ok__law_bag (P := P) (w := w) (base := base) F__law_bag (He.glo_ok X G (c.fact 30 (f := .glo "_law_bag") rfl)) BB
  have c__law_take := ok__law_take (P := P) (w := w) (base := base) F__law_take (He.glo_ok X G (c.fact 31 (f := .glo "_law_take") rfl)) BB
  have c__law_is_whole := ok__law_is_whole (P := P) (w := w) (base := base) F__law_is_whole (He.glo_ok X G (c.fact 32 (f := .glo "_law_is_whole") rfl)) BB
  have c__law_shared := ok__law_shared (P := P) (w := w) (base := base) F__law_shared (He.glo_ok X G (c.fact 33 (f := .glo "_law_shared") rfl)) BB
  have c__law_low := ok__law_low (P := P) (w := w) (base := base) F__law_low (He.glo_ok X G (c.fact 34 (f := .glo "_law_low") rfl)) BB c__law_shared
  have c__law_is_number := ok__law_is_number (P := P) (w := w) (base := base) F__law_is_number (He.glo_ok X G (c.fact 35 (f := .glo "_law_is_number") rfl)) BB c__law_shared c__law_is_whole
  have c__law_number := ok__law_number (P := P) (w := w) (base := base) F__law_number (He.glo_ok X G (c.fact 36 (f := .glo "_law_number") rfl)) BB c__law_low c__law_take
  have c__law_roots := ok__law_roots (P := P) (w := w) (base := base) F__law_roots (He.glo_ok X G (c.fact 37 (f := .glo "_law_roots") rfl)) BB
  have c__law_text := ok__law_text (P := P) (w := w) (base := base) F__law_text (He.glo_ok X G (c.fact 38 (f := .glo "_law_text") rfl)) BB c__law_roots
  have c__law_digits := ok__law_digits (P := P) (w := w) (base := base) F__law_digits (He.glo_ok X G (c.fact 39 (f := .glo "_law_digits") rfl)) BB c__law_take
  have c__law_any_number := ok__law_any_number (P := P) (w := w) (base := base) F__law_any_number (He.glo_ok X G (c.fact 40 (f := .glo "_law_any_number") rfl)) BB c__law_take c__law_low c__law_digits c__law_number
  exact ok_law_fn (base := base) F_law BB c_read_number c_show_number c__law_is_number c__law_text c__law_any_number c__law_bag

end My
end

open PySem PySem.W PySem.Calls in
set_option maxRecDepth 100000 in
set_option maxHeartbeats 0 in
theorem PySem.Challenge.cw_matefloors_k47_numbers_written_holds : PySem.Challenge.rw_matefloors_k47_numbers_written.Holds := by
  w_on; o_law
  refine HandSHeadRun.head_any (r := OpenLaw.row PySem.Challenge.rw_matefloors_k47_numbers_written) (q := view (OpenLaw.row PySem.Challenge.rw_matefloors_k47_numbers_written).prog [30]) (H := My.hk) (ob := My.hob) (M := 6000) (loose := My.hloose) (d := HandSHeadRun.topDef (OpenLaw.row PySem.Challenge.rw_matefloors_k47_numbers_written).prog 30) (kwd := []) My.hob_eq
    (by kernel_rfl) (fun s => by kernel_rfl) My.hrun (by kernel_rfl) (by kernel_rfl) (by kernel_rfl) (by rfl) (by first | assumption | decide +kernel) (by decide +kernel) ⟨rfl, rfl, rfl, rfl, rfl, by decide +kernel⟩ ?hw ?hc
  case hw => w_witness2
  case hc =>
    refine DL.walk_ofEB (l := PySem.Challenge.rw_matefloors_k47_numbers_written) (n := 63) (k := 7) (x := "_law_script") (CX := L2.CX0) rfl (by decide) (by kernel_rfl) ⟨rfl, by decide, by decide⟩ ?F (fun _ _ _ _ z => z)
    intro w mg fa h Y G hmg0
    obtain ⟨K, KX, c⟩ := Y
    have hmg : mg ("law" : PySem.Str) = some (.ref fa) := by
      have e : (HandSHeadRun.topDef (OpenLaw.row PySem.Challenge.rw_matefloors_k47_numbers_written).prog 30).name = ("law" : PySem.Str) := by kernel_rfl
      rw [← e]
      exact hmg0
    obtain ⟨fd, hb, hF⟩ := My.hfacts (P := (PySem.Challenge.rw_matefloors_k47_numbers_written).prog) (w := w) KX G hmg c.t.d c.more
    exact ⟨K, fd, _, KX, hb, fun H a ns hl hbits hS => ⟨a, ns, rfl, hS, ⟨hl, hbits⟩, fun _ => rfl⟩, fun base _ _ => DL.law_true (hF base) My.law_holds⟩
