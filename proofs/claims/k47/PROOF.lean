import PyProof.Rows.All
import Wide.All
import OpenK.AllK
import Wide.FinOn
import HandS.ForMost
import HandS.IsInst
import HandS.TupAny
import HandS.TupMul
import HandS.Deep
import HandS.SortInts
import HandS.SortOrd
import HandS.Style
import HandS.Codes
import PyProof.StrOps2
import HandS.Dict
import HandS.TupLen
import KE.KDictDisplayH
import KE.SortData
import KE.DataMinMax
import KE.DataAny
import KE.DataFind
import KE.KTupSum
import HandS.Conv
import HandS.NoneIn
import HandS.SetFor
import HandS.Text
import HandS.TupSets
import KE.GoesMore
import KE.GoesEnum
import HandS.Zip
import HandS.Rev
import PySem.Challenge.RW_choicesjoined_k47_whole_digits_and_tower
set_option Elab.async false
set_option linter.all false
set_option maxRecDepth 100000
set_option maxHeartbeats 4000000
/-! Pi 1: pure values, what they are in the abstract heap, steps, slots. -/
namespace Pi
open PySem PySem.Spec PyProof.Rows L2

inductive PV where
  | non | bl (b : Bool) | int (i : Int) | str (x : Str) | tup (l : List PV) | lst (l : List PV) | dic (kvs : List (PV × PV)) | scr (l : List PV)
  deriving Inhabited

def PV.isCont : PV → Bool
  | .lst _ => true
  | .dic _ => true
  | _ => false

/-- a flat key, a tuple of flat keys -/
def keyOf : PV → Option Key
  | .int i => some (.inl i)
  | .str x => some (.inr x)
  | _ => none
def keysOf : PV → Option (List Key)
  | .tup l => l.mapM keyOf
  | _ => none

/-- a tuple as it stands in the heap -/
def Tp (F : Hp) (a : Addr) (xs : List V) : Prop := F a = some (.tup xs)
mutual
inductive Rep (K : PySem.W.Frag) (F : Hp) : PV → V → Prop
  | non : Rep K F .non .non
  | bl (b : Bool) : Rep K F (.bl b) (.bl b)
  | int (i : Int) : Rep K F (.int i) (.int i)
  | str (x : Str) : Rep K F (.str x) (.str x)
  | tup {a : Addr} {xs : List V} {l : List PV} : Tp F a xs → Reps K F l xs → Rep K F (.tup l) (.ref a)
  | lst {a : Addr} {xs : List V} {l : List PV} : F a = some (.lst xs) → Reps K F l xs → Rep K F (.lst l) (.ref a)
  | dT {a : Addr} {es : List (List Key × V)} {kvs : List (PV × PV)} : F a = some (.dT es) → RepT K F kvs es → Rep K F (.dic kvs) (.ref a)
  | scr {a : Addr} {xs : List V} {l : List PV} : SqL K F a xs → Reps K F l xs → Rep K F (.scr l) (.ref a)
inductive Reps (K : PySem.W.Frag) (F : Hp) : List PV → List V → Prop
  | nil : Reps K F [] []
  | cons {p : PV} {v : V} {l : List PV} {xs : List V} : Rep K F p v → Reps K F l xs → Reps K F (p :: l) (v :: xs)
inductive RepK (K : PySem.W.Frag) (F : Hp) : List (PV × PV) → List (Key × V) → Prop
  | nil : RepK K F [] []
  | cons {k : PV} {p : PV} {y : Key} {v : V} {l : List (PV × PV)} {es : List (Key × V)} : keyOf k = some y → Rep K F p v → RepK K F l es → RepK K F ((k, p) :: l) ((y, v) :: es)
inductive RepT (K : PySem.W.Frag) (F : Hp) : List (PV × PV) → List (List Key × V) → Prop
  | nil : RepT K F [] []
  | cons {k : PV} {p : PV} {y : List Key} {v : V} {l : List (PV × PV)} {es : List (List Key × V)} : keysOf k = some y → Rep K F p v → RepT K F l es → RepT K F ((k, p) :: l) ((y, v) :: es)
end

section
variable {K : PySem.W.Frag} {F F' H H' : Hp}

theorem tp_mono (e : Same F F') {a : Addr} {xs : List V} (h : Tp F a xs) : Tp F' a xs := e _ _ h
theorem Tp.sq {a : Addr} {xs : List V} (h : Tp F a xs) : SqT K F a xs := .inl (.inl h)
theorem sqT_mono (e : Same F F') {a : Addr} {xs : List V} (h : Tp F a xs) : SqT K F' a xs := (tp_mono e h).sq
mutual
theorem Rep.mono (e : Same F F') : ∀ {p : PV} {v : V}, Rep K F p v → Rep K F' p v
  | _, _, .non => .non
  | _, _, .bl b => .bl b
  | _, _, .int i => .int i
  | _, _, .str x => .str x
  | _, _, .tup h r => .tup (tp_mono e h) (Reps.mono e r)
  | _, _, .lst h r => .lst (e _ _ h) (Reps.mono e r)
  | _, _, .dT h r => .dT (e _ _ h) (RepT.mono e r)
  | _, _, .scr h r => .scr (e.seq h) (Reps.mono e r)
theorem Reps.mono (e : Same F F') : ∀ {l : List PV} {xs : List V}, Reps K F l xs → Reps K F' l xs
  | _, _, .nil => .nil
  | _, _, .cons h r => .cons (Rep.mono e h) (Reps.mono e r)
theorem RepK.mono (e : Same F F') : ∀ {l : List (PV × PV)} {es : List (Key × V)}, RepK K F l es → RepK K F' l es
  | _, _, .nil => .nil
  | _, _, .cons k h r => .cons k (Rep.mono e h) (RepK.mono e r)
theorem RepT.mono (e : Same F F') : ∀ {l : List (PV × PV)} {es : List (List Key × V)}, RepT K F l es → RepT K F' l es
  | _, _, .nil => .nil
  | _, _, .cons k h r => .cons k (Rep.mono e h) (RepT.mono e r)
end

theorem Reps.length : ∀ {l : List PV} {xs : List V}, Reps K F l xs → l.length = xs.length
  | _, _, .nil => rfl
  | _, _, .cons _ r => by rw [List.length_cons, List.length_cons, Reps.length r]
theorem Reps.get : ∀ {l : List PV} {xs : List V} {i : Nat} {p : PV}, Reps K F l xs → l[i]? = some p → ∃ v, xs[i]? = some v ∧ Rep K F p v
  | _, _, _, _, .nil, e => by simp at e
  | _, _, 0, _, .cons r _, e => by simp at e; subst e; exact ⟨_, rfl, r⟩
  | _, _, i + 1, p, .cons _ t, e => by
    obtain ⟨u, h1, h2⟩ := Reps.get (i := i) (p := p) t (by simpa using e)
    exact ⟨u, by simpa using h1, h2⟩
theorem Reps.get' : ∀ {l : List PV} {xs : List V} {i : Nat} {v : V}, Reps K F l xs → xs[i]? = some v → ∃ p, l[i]? = some p ∧ Rep K F p v
  | _, _, _, _, .nil, e => by simp at e
  | _, _, 0, _, .cons r _, e => by simp at e; subst e; exact ⟨_, rfl, r⟩
  | _, _, i + 1, p, .cons _ t, e => by
    obtain ⟨u, h1, h2⟩ := Reps.get' (i := i) (v := p) t (by simpa using e)
    exact ⟨u, by simpa using h1, h2⟩
theorem Reps.append : ∀ {l m : List PV} {xs ys : List V}, Reps K F l xs → Reps K F m ys → Reps K F (l ++ m) (xs ++ ys)
  | _, _, _, _, .nil, s => s
  | _, _, _, _, .cons r t, s => .cons r (Reps.append t s)
theorem Reps.take : ∀ {l : List PV} {xs : List V} (n : Nat), Reps K F l xs → Reps K F (l.take n) (xs.take n)
  | _, _, 0, _ => .nil
  | _, _, _ + 1, .nil => .nil
  | _, _, n + 1, .cons r t => .cons r (Reps.take n t)
theorem Reps.drop : ∀ {l : List PV} {xs : List V} (n : Nat), Reps K F l xs → Reps K F (l.drop n) (xs.drop n)
  | _, _, 0, r => r
  | _, _, _ + 1, .nil => .nil
  | _, _, n + 1, .cons _ t => Reps.drop n t
theorem Reps.set {p : PV} {v : V} (r : Rep K F p v) : ∀ {l : List PV} {xs : List V} (i : Nat), Reps K F l xs → Reps K F (l.set i p) (xs.set i v)
  | _, _, _, .nil => .nil
  | _, _, 0, .cons _ t => .cons r t
  | _, _, i + 1, .cons q t => .cons q (Reps.set r i t)
theorem Reps.one {p : PV} {v : V} (r : Rep K F p v) : Reps K F [p] [v] := .cons r .nil
theorem Reps.rev : ∀ {l : List PV} {xs : List V}, Reps K F l xs → Reps K F l.reverse xs.reverse
  | _, _, .nil => .nil
  | _, _, .cons r t => by
    rw [List.reverse_cons, List.reverse_cons]
    exact (Reps.rev t).append (.one r)
theorem Reps.flat : ∀ {l : List PV} {xs : List V} (n : Nat), Reps K F l xs → Reps K F (List.replicate n l).flatten (List.replicate n xs).flatten
  | _, _, 0, _ => .nil
  | _, _, n + 1, r => by
    rw [List.replicate_succ, List.replicate_succ, List.flatten_cons, List.flatten_cons]
    exact r.append (Reps.flat n r)
/-- ints, bools, texts in a row -/
theorem Reps.ints : ∀ {ns : List Int} {xs : List V}, Reps K F (ns.map PV.int) xs → xs = ns.map V.int
  | [], _, h => by cases h; rfl
  | n :: ns, _, h => by
    cases h with
    | cons r t =>
      cases r
      rw [Reps.ints t]
      rfl
theorem Reps.of_ints : ∀ (ns : List Int), Reps K F (ns.map PV.int) (ns.map V.int)
  | [] => .nil
  | n :: ns => .cons (.int n) (Reps.of_ints ns)
theorem Reps.bls : ∀ {ns : List Bool} {xs : List V}, Reps K F (ns.map PV.bl) xs → xs = ns.map V.bl
  | [], _, h => by cases h; rfl
  | n :: ns, _, h => by
    cases h with
    | cons r t =>
      cases r
      rw [Reps.bls t]
      rfl
theorem Reps.strs_ : ∀ {ns : List Str} {xs : List V}, Reps K F (ns.map PV.str) xs → xs = ns.map V.str
  | [], _, h => by cases h; rfl
  | n :: ns, _, h => by
    cases h with
    | cons r t =>
      cases r
      rw [Reps.strs_ t]
      rfl

/-- a step of an expression: objects stand, new ones may be frozen -/
structure Stp (F H F' H' : Hp) : Prop where
  hh : Same H H'
  ff : Same F F'
  fh : Same F' H'
  nw : ∀ a o, F' a = some o → F a = some o ∨ H a = none
theorem Stp.refl (h : Same F H) : Stp F H F H := ⟨Same.refl H, Same.refl F, h, fun _ _ e => .inl e⟩
theorem Stp.trans {F1 H1 F2 H2 : Hp} (s : Stp F H F1 H1) (t : Stp F1 H1 F2 H2) : Stp F H F2 H2 :=
  ⟨s.hh.trans t.hh, s.ff.trans t.ff, t.fh, fun a o e => by
    rcases t.nw a o e with e | e
    · exact s.nw a o e
    · exact .inr (s.hh.free e)⟩
theorem same_upd {H : Hp} {p : Addr} {o : HO} (h : H p = none) : Same H (upd H p o) := fun b x e => by
  rw [upd_ne (ne_of_none e h)]
  exact e
/-- a new object, frozen at once -/
theorem Stp.new {p : Addr} {o : HO} (h : Same F H) (n : H p = none) : Stp F H (upd F p o) (upd H p o) :=
  ⟨same_upd n, same_upd (h.free n), fun b x e => by
    by_cases hb : b = p
    · subst hb; rw [upd_same] at e ⊢; exact e
    · rw [upd_ne hb] at e ⊢; exact h b x e, fun b x e => by
    by_cases hb : b = p
    · subst hb; exact .inr n
    · rw [upd_ne hb] at e; exact .inl e⟩
/-- a new object, not frozen -/
theorem Stp.new' {p : Addr} {o : HO} (h : Same F H) (n : H p = none) : Stp F H F (upd H p o) :=
  ⟨same_upd n, Same.refl F, h.trans (same_upd n), fun b x e => .inl e⟩

def RepO (K : PySem.W.Frag) (F : Hp) : PV → HO → Prop
  | .lst l, .lst xs => Reps K F l xs
  | .dic kvs, .dT es => RepT K F kvs es
  | _, _ => False
theorem RepO.mono (e : Same F F') {p : PV} {o : HO} (h : RepO K F p o) : RepO K F' p o := by
  cases p <;> cases o <;> first | exact h.elim | exact Reps.mono e h | exact RepT.mono e h
/-- an object that is not frozen -/
def OwnAt (K : PySem.W.Frag) (F H : Hp) (p : PV) (a : Addr) : Prop := F a = none ∧ ∃ o, H a = some o ∧ RepO K F p o
theorem OwnAt.step (s : Stp F H F' H') {p : PV} {a : Addr} (h : OwnAt K F H p a) : OwnAt K F' H' p a := by
  obtain ⟨n, o, e, r⟩ := h
  refine ⟨?_, o, s.hh _ _ e, r.mono s.ff⟩
  cases q : F' a with
  | none => rfl
  | some u =>
    rcases s.nw a u q with z | z
    · rw [n] at z; cases z
    · rw [e] at z; cases z
theorem RepO.rep {p : PV} {o : HO} {a : Addr} (h : RepO K F p o) (e : F a = some o) : Rep K F p (.ref a) := by
  cases p <;> cases o <;> first | exact h.elim | exact .lst e h | exact .dT e h
/-- a fresh object is frozen -/
theorem OwnAt.freeze {p : PV} {a : Addr} (h : OwnAt K F' H' p a) (s : Stp F H F' H') (n : H a = none) : ∃ F'', Stp F H F'' H' ∧ Same F' F'' ∧ Rep K F'' p (.ref a) := by
  obtain ⟨nf, o, e, r⟩ := h
  refine ⟨upd F' a o, ⟨s.hh, s.ff.trans (same_upd nf), fun b x q => ?_, fun b x q => ?_⟩, same_upd nf, (r.mono (same_upd nf)).rep upd_same⟩
  · by_cases hb : b = a
    · subst hb; rw [upd_same] at q; cases q; exact e
    · rw [upd_ne hb] at q; exact s.fh b x q
  · by_cases hb : b = a
    · subst hb; exact .inr n
    · rw [upd_ne hb] at q; exact s.nw b x q

/-- results: a value; a fresh one; one that may be someone's own -/
def RelFr (K : PySem.W.Frag) (H F' H' : Hp) (p : PV) (v : V) : Prop := if p.isCont = true then ∃ a, v = .ref a ∧ H a = none ∧ OwnAt K F' H' p a else Rep K F' p v
def RelB (K : PySem.W.Frag) (F' H' : Hp) (p : PV) (v : V) : Prop := Rep K F' p v ∨ ∃ a, v = .ref a ∧ OwnAt K F' H' p a
theorem RelFr.b {p : PV} {v : V} {H1 : Hp} (h : RelFr K H1 F H p v) : RelB K F H p v := by
  unfold RelFr at h
  split at h
  · obtain ⟨a, e, _, o⟩ := h
    exact .inr ⟨a, e, o⟩
  · exact .inl h
theorem RelB.step (s : Stp F H F' H') {p : PV} {v : V} (h : RelB K F H p v) : RelB K F' H' p v := by
  rcases h with h | ⟨a, e, o⟩
  · exact .inl (h.mono s.ff)
  · exact .inr ⟨a, e, o.step s⟩
theorem RelFr.of {H1 : Hp} {p : PV} {v : V} (c : p.isCont = false) (h : Rep K F p v) : RelFr K H1 F H p v := by
  unfold RelFr
  rw [c]
  exact h
theorem RelFr.mono {H1 H2 : Hp} {p : PV} {v : V} (s : Same H1 H2) (h : RelFr K H2 F H p v) : RelFr K H1 F H p v := by
  unfold RelFr at h ⊢
  split
  · rename_i c
    rw [if_pos c] at h
    obtain ⟨a, e, n, o⟩ := h
    exact ⟨a, e, s.free n, o⟩
  · rename_i c
    rw [if_neg c] at h
    exact h

/-! what a value of a kind is -/
theorem RelB.int {i : Int} {v : V} (h : RelB K F H (.int i) v) : v = .int i := by
  rcases h with h | ⟨a, e, _, o, _, r⟩
  · cases h; rfl
  · exact r.elim
theorem RelB.bl {i : Bool} {v : V} (h : RelB K F H (.bl i) v) : v = .bl i := by
  rcases h with h | ⟨a, e, _, o, _, r⟩
  · cases h; rfl
  · exact r.elim
theorem RelB.str {i : Str} {v : V} (h : RelB K F H (.str i) v) : v = .str i := by
  rcases h with h | ⟨a, e, _, o, _, r⟩
  · cases h; rfl
  · exact r.elim
theorem RelB.non {v : V} (h : RelB K F H .non v) : v = .non := by
  rcases h with h | ⟨a, e, _, o, _, r⟩
  · cases h; rfl
  · exact r.elim
theorem RelB.tup {l : List PV} {v : V} (s : Same F H) (h : RelB K F H (.tup l) v) : ∃ a xs, v = .ref a ∧ Tp H a xs ∧ Reps K F l xs := by
  rcases h with h | ⟨a, e, _, o, _, r⟩
  · cases h with | tup h r => exact ⟨_, _, rfl, tp_mono s h, r⟩
  · exact r.elim
theorem RelB.scr {l : List PV} {v : V} (s : Same F H) (h : RelB K F H (.scr l) v) : ∃ a xs, v = .ref a ∧ SqL K H a xs ∧ Reps K F l xs := by
  rcases h with h | ⟨a, e, _, o, _, r⟩
  · cases h with | scr h r => exact ⟨_, _, rfl, s.seq h, r⟩
  · exact r.elim
theorem RelB.lst {l : List PV} {v : V} (s : Same F H) (h : RelB K F H (.lst l) v) : ∃ a xs, v = .ref a ∧ H a = some (.lst xs) ∧ Reps K F l xs := by
  rcases h with h | ⟨a, e, _, o, q, r⟩
  · cases h with | lst h r => exact ⟨_, _, rfl, s _ _ h, r⟩
  · cases o <;> first | exact r.elim | exact ⟨a, _, e, q, r⟩
theorem RelB.dic {kvs : List (PV × PV)} {v : V} (s : Same F H) (h : RelB K F H (.dic kvs) v) : ∃ a, v = .ref a ∧ ∃ es, H a = some (.dT es) ∧ RepT K F kvs es := by
  rcases h with h | ⟨a, e, _, o, q, r⟩
  · cases h with
    | dT h r => exact ⟨_, rfl, _, s _ _ h, r⟩
  · cases o <;> first | exact r.elim | exact ⟨a, e, _, q, r⟩

/-! ### slots -/
inductive Sl where
  | un | val (p : PV) | own (p : PV)
  deriving Inhabited
abbrev En := List Sl
/-- the heap at the entry, and what is frozen there -/
structure Bs where
  H : Hp
  F : Hp
def SlotR (K : PySem.W.Frag) (F H : Hp) : Sl → Option (Option V) → Prop
  | .un, _ => True
  | .val p, o => ∃ v, o = some (some v) ∧ Rep K F p v
  | .own p, o => ∃ a, o = some (some (.ref a)) ∧ OwnAt K F H p a
structure StR (K : PySem.W.Frag) (B : Bs) (ρ : En) (σ : L2.St) (H F : Hp) : Prop where
  len : ρ.length = σ.length
  fh : Same F H
  hb : Same B.H H
  fb : Same B.F F
  fn : ∀ a o, F a = some o → B.F a = some o ∨ B.H a = none
  sl : ∀ (i : Nat) s, ρ[i]? = some s → SlotR K F H s σ[i]?
  ob : ∀ (i : Nat) p a, ρ[i]? = some (.own p) → σ[i]? = some (some (.ref a)) → B.H a = none
  dj : ∀ (i j : Nat) p q a, ρ[i]? = some (.own p) → ρ[j]? = some (.own q) → σ[i]? = some (some (.ref a)) → σ[j]? = some (some (.ref a)) → i = j
variable {B : Bs} {ρ : En} {σ : L2.St}
theorem SlotR.step (s : Stp F H F' H') {x : Sl} {o : Option (Option V)} (h : SlotR K F H x o) : SlotR K F' H' x o := by
  cases x with
  | un => trivial
  | val p =>
    obtain ⟨v, e, r⟩ := h
    exact ⟨v, e, r.mono s.ff⟩
  | own p =>
    obtain ⟨a, e, r⟩ := h
    exact ⟨a, e, r.step s⟩
theorem StR.step (s : Stp F H F' H') (h : StR K B ρ σ H F) : StR K B ρ σ H' F' :=
  ⟨h.len, s.fh, h.hb.trans s.hh, h.fb.trans s.ff, fun a o e => by
    rcases s.nw a o e with e | e
    · exact h.fn a o e
    · exact .inr (h.hb.free e), fun i x e => (h.sl i x e).step s, h.ob, h.dj⟩
end
end Pi

/-! Pi 2: operators by pure values. -/
namespace Pi
open PySem PySem.Spec PyProof.Rows L2

/-- a text told k times -/
def repS (x : Str) (k : Nat) : Str := ⟨(List.replicate k x.cps).foldl (· ++ ·) #[]⟩
theorem foldl_empty : ∀ k : Nat, (List.replicate k (#[] : Array Nat)).foldl (· ++ ·) #[] = #[]
  | 0 => rfl
  | k + 1 => by
    rw [List.replicate_succ, List.foldl_cons]
    exact foldl_empty k
theorem foldl_size (a : Array Nat) : ∀ (k : Nat) (acc : Array Nat), ((List.replicate k a).foldl (· ++ ·) acc).size = acc.size + k * a.size
  | 0, acc => by simp
  | k + 1, acc => by
    rw [List.replicate_succ, List.foldl_cons, foldl_size a k, Array.size_append, Nat.add_mul]
    omega
section
variable {X : Cx}
def rMulS : V → V → Hp → VK → Prop := fun x y H Q => ∃ (a : Str) (n : Int), x = .str a ∧ y = .int n ∧ 0 ≤ n ∧ n ≤ 1000000 ∧ a.length * n.toNat ≤ 1000000 ∧ Q (.str (repS a n.toNat)) H
theorem op_mulS : OpR X (binaryOp .Mult) rMulS := by
  intro pins s σ H x y v u Q I rx ry h
  obtain ⟨a, n, rfl, rfl, h0, h1, h2, q⟩ := h
  obtain ⟨t, rfl⟩ := rx
  obtain ⟨t2, rfl⟩ := ry
  refine P.mul_str (by
    rw [decide_eq_false (by omega), decide_eq_false (by omega)]; rfl) (fun g1 g2 => ?_) (fun g1 g2 => ?_) ?_
  · intro z
    have hn : (1 : Int) ≤ n := by omega
    have z2 := Int.lt_mul_of_ediv_lt (by omega) z
    have e : ((a.length * n.toNat : Nat) : Int) = (a.length : Int) * n := by push_cast; rw [Int.toNat_of_nonneg h0]
    omega
  · show decide (a.length * n.toNat > sizeLine) = false
    refine decide_eq_false ?_
    have : sizeLine = 2 ^ 24 := rfl
    omega
  · by_cases g : n < 1
    · rw [if_pos g]
      have e : n.toNat = 0 := by omega
      rw [e] at q
      exact ⟨by decide, .str _, H, I.tok _, ⟨_, rfl⟩, q⟩
    · rw [if_neg g]
      by_cases g2 : (n == 1 || a.length == 0) = true
      · rw [if_pos g2]
        have e : repS a n.toNat = a := by
          rw [Bool.or_eq_true, beq_iff_eq, beq_iff_eq] at g2
          rcases g2 with rfl | g2
          · unfold repS
            show (⟨#[] ++ a.cps⟩ : Str) = a
            rw [Array.empty_append]
          · have ea : a.cps = #[] := Array.eq_empty_of_size_eq_zero g2
            unfold repS
            rw [ea, foldl_empty]
            cases a
            simp only at ea
            rw [ea]
        rw [e] at q
        exact ⟨.str _, H, I, ⟨_, rfl⟩, q⟩
      · rw [if_neg g2]
        have hl : (repS a n.toNat).length ≤ sizeLine := by
          have e : (repS a n.toNat).length = 0 + n.toNat * a.length := foldl_size a.cps n.toNat #[]
          have : sizeLine = 2 ^ 24 := rfl
          rw [Nat.mul_comm] at h2
          omega
        exact ⟨hl, .str _, H, I.tok _, ⟨_, rfl⟩, q⟩
end
/-! ### data for == -/
mutual
def PV.toD : PV → PyData
  | .non => .none
  | .bl b => .bool b
  | .int i => .int i
  | .str x => .str x
  | .tup l => .tuple (toDs l)
  | .lst l => .list (toDs l)
  | .dic _ => .dict []
  | .scr _ => .dict []
def toDs : List PV → List PyData
  | [] => []
  | p :: l => p.toD :: toDs l
end
section
variable {K : PySem.W.Frag} {F F' H H' : Hp}
mutual
theorem Rep.dp (s : Same F H) : ∀ {p : PV} {v : V}, Rep K F p v → p.toD.canLay0 = true → Dp K H v p.toD
  | _, _, .non, _ => .non
  | _, _, .bl b, _ => .bl b
  | _, _, .int i, _ => .int i
  | _, _, .str x, _ => .str x
  | _, _, .tup h r, c => .tup (sqT_mono s h) (Reps.dp s r (by simpa [PV.toD, PyData.canLay0] using c))
  | _, _, .lst h r, c => .lst (.inl (.inl (s _ _ h))) (Reps.dp s r (by simpa [PV.toD, PyData.canLay0] using c))
  | _, _, .dT _ _, c => by simp [PV.toD, PyData.canLay0] at c
  | _, _, .scr _ _, c => by simp [PV.toD, PyData.canLay0] at c
theorem Reps.dp (s : Same F H) : ∀ {l : List PV} {xs : List V}, Reps K F l xs → PyData.canLayAll0 (toDs l) = true → DpAll K H xs (toDs l)
  | _, _, .nil, _ => .nil
  | _, _, .cons h r, c => by
    simp only [toDs, PyData.canLayAll0, Bool.and_eq_true] at c
    exact .cons (Rep.dp s h c.1) (Reps.dp s r c.2)
end
theorem RelB.dp (s : Same F H) {p : PV} {v : V} (h : RelB K F H p v) (c : p.toD.canLay0 = true) : Dp K H v p.toD := by
  rcases h with h | ⟨a, e, _, o, q, r⟩
  · exact h.dp s c
  · cases p <;> first | (simp [PV.toD, PyData.canLay0] at c; done) | (cases o <;> first | exact r.elim | skip)
    subst e
    exact .lst (.inl (.inl q)) (Reps.dp s r (by simpa [PV.toD, PyData.canLay0] using c))

/-! ### what rules ask, by pure values -/
def pR1 (K : PySem.W.Frag) (g : PV → Option PV) : V → Hp → VK → Prop := fun x H Q => ∃ p F r, Same F H ∧ RelB K F H p x ∧ g p = some r ∧ ∀ v H' F', Stp F H F' H' → RelFr K H F' H' r v → Q v H'
def pR2 (K : PySem.W.Frag) (g : PV → PV → Option PV) : R2 := fun x y H Q => ∃ p q F r, Same F H ∧ RelB K F H p x ∧ RelB K F H q y ∧ g p q = some r ∧ ∀ v H' F', Stp F H F' H' → RelFr K H F' H' r v → Q v H'
inductive RelBs (K : PySem.W.Frag) (F H : Hp) : List PV → List V → Prop
  | nil : RelBs K F H [] []
  | cons {p : PV} {v : V} {l : List PV} {xs : List V} : RelB K F H p v → RelBs K F H l xs → RelBs K F H (p :: l) (v :: xs)
theorem RelBs.step (s : Stp F H F' H') : ∀ {l : List PV} {xs : List V}, RelBs K F H l xs → RelBs K F' H' l xs
  | _, _, .nil => .nil
  | _, _, .cons h r => .cons (h.step s) (RelBs.step s r)
def pRL (K : PySem.W.Frag) (g : List PV → Option PV) : List V → Hp → VK → Prop := fun xs H Q => ∃ ps F r, Same F H ∧ RelBs K F H ps xs ∧ g ps = some r ∧ ∀ v H' F', Stp F H F' H' → RelFr K H F' H' r v → Q v H'

/-- scalars out -/
theorem frI {H1 : Hp} {i : Int} : RelFr K H1 F H (.int i) (.int i) := .of rfl (.int i)
theorem frB {H1 : Hp} {i : Bool} : RelFr K H1 F H (.bl i) (.bl i) := .of rfl (.bl i)
theorem frS {H1 : Hp} {i : Str} : RelFr K H1 F H (.str i) (.str i) := .of rfl (.str i)
theorem frN {H1 : Hp} : RelFr K H1 F H .non .non := .of rfl .non
/-- a new list out -/
theorem frL {p : Addr} {xs : List V} {l : List PV} (s : Same F H) (n : H p = none) (r : Reps K F l xs) : RelFr K H F (upd H p (.lst xs)) (.lst l) (.ref p) :=
  ⟨p, rfl, n, s.free n, .lst xs, upd_same, r⟩
/-- a new tuple out -/
theorem frT {p : Addr} {xs : List V} {l : List PV} (s : Same F H) (n : H p = none) (r : Reps K F l xs) : RelFr K H (upd F p (.tup xs)) (upd H p (.tup xs)) (.tup l) (.ref p) :=
  .of rfl (.tup upd_same (r.mono (same_upd (s.free n))))
end

/-! ### binary operators -/
def seqOk (n : Nat) : Bool := decide (n ≤ sizeLine)
def mulOk (i j : Int) : Bool := decide (i.natAbs < 2 ^ 64) || decide (j.natAbs < 2 ^ 64)
theorem tuple_mulW1 (l : Addr) (items : Array Value) (n : Nat) (dd : Option Addr) (sl : Array (Option Value)) (u : Tok) :
    Meets (Builtin.«tuple.__mul__» ⟨[.ref l, .int 1 u], []⟩) (fun _ R s => s.heap.get? l = some { cls := .type "tuple", dict := dd, data := .seq items n, slots := sl } ∧ R (.ok (.ret (Value.ref l))) s) :=
  .of_wp fun prog w A R s h => by
    obtain ⟨hp, g, d, tk, os⟩ := s
    obtain ⟨hl, h⟩ := h
    have f1 := AutoSeq1.idx_int
    have c0 : (decide ((1 : Int) < -(2 ^ 63)) || decide ((1 : Int) ≥ 2 ^ 63)) = false := by decide
    have c1 : (items.isEmpty || (1 : Int) == 1) = true := by simp
    wp_walk using wpAny_loadPart' hl
    repeat (first
      | (refine wpAny_ite_false (decide_eq_false (by rw [c0]; exact Bool.false_ne_true)) ?_; wp_walk using wpAny_loadPart' hl)
      | (refine wpAny_ite_true (decide_eq_true (by rw [c1])) ?_; wp_walk using wpAny_loadPart' hl))
    exact ⟨_, rfl, h⟩
def rRepT1 (K : PySem.W.Frag) : R2 := fun x y H Q => ∃ l xs, x = .ref l ∧ y = .int 1 ∧ SqT K H l xs ∧ Q (.ref l) H
theorem op_repT1 {X : Cx} : OpR X (binaryOp .Mult) (rRepT1 X.K) := by
  intro pins s σ H x y v u Q I rx ry h
  obtain ⟨l, xs, rfl, rfl, hT, q⟩ := h
  cases rx
  obtain ⟨t, rfl⟩ := ry
  obtain ⟨its, r, ⟨⟨cls, dd, data, sl⟩, ho, hc, n, hd⟩, hs⟩ := I.tuple hT
  simp only at hc hd
  subst hc hd
  refine wpAny_binaryOp_repeat_ref (T := "tuple") (U := "int") (by decide) ⟨_, ho, rfl⟩ (fun s' => typeIs_int s' 1 t) noFill_tuple_mul F.fills_int_mul F.slot_int_rmul repeat_tuple F.slot_int_index.lookup
    (call_meets F.slot_int_rmul (typeIs_int s 1 t) F.entry_int_rmul (F.args_int_rmul_2 _ _) (int_rmul_tuple 1 t l its.toArray n dd sl)
      ⟨ho, rfl, ⟨_, ho, rfl⟩, call_meets F.slot_tuple_mul ⟨_, ho, rfl⟩ F.entry_tuple_mul (F.args_tuple_mul_2 _ _) (tuple_mulW1 l its.toArray n dd sl t) ⟨ho, ?_⟩⟩)
  exact ⟨.ref l, H, I, rfl, q⟩
def binV : Operator → PV → PV → Option PV
  | .Add, .int i, .int j => some (.int (i + j))
  | .Add, .int i, .bl b => some (.int (i + b2i b))
  | .Add, .str x, .str y => if seqOk (x.length + y.length) then some (.str (x ++ y)) else none
  | .Add, .tup l, .tup m => if seqOk (l.length + m.length) then some (.tup (l ++ m)) else none
  | .Add, .lst l, .lst m => if seqOk (l.length + m.length) then some (.lst (l ++ m)) else none
  | .Sub, .int i, .int j => some (.int (i - j))
  | .Mult, .int i, .int j => if mulOk i j then some (.int (i * j)) else none
  | .Mult, .lst l, .int k => if decide (-(2 ^ 63) ≤ k) && decide (k < 2 ^ 63) && seqOk (l.length * k.toNat) then some (.lst (List.replicate k.toNat l).flatten) else none
  | .Mult, .tup l, .int k => if decide (1 ≤ k) && decide (k ≤ 1000) && decide (0 < l.length) && decide (l.length ≤ 1000) then some (.tup (List.replicate k.toNat l).flatten) else none
  | .Mult, .str x, .int n => if decide (0 ≤ n) && decide (n ≤ 1000000) && decide (x.length * n.toNat ≤ 1000000) then some (.str (repS x n.toNat)) else none
  | .FloorDiv, .int i, .int j => if decide (j ≠ 0) && decide (j.natAbs.log2 < 9000) then some (.int (i.fdiv j)) else none
  | .Mod, .int i, .int j => if decide (j ≠ 0) then some (.int (i.fmod j)) else none
  | .Pow, .int i, .int j => if decide (0 ≤ j) && decide (j ≤ 1000000) && decide (i.natAbs < 2 ^ 64) then some (.int (i ^ j.toNat)) else none
  | .LShift, .int i, .int j => if decide (0 ≤ j) && decide (j ≤ 1000000) && decide (i.natAbs < 2 ^ 64) then some (.int (i * 2 ^ j.toNat)) else none
  | .RShift, .int i, .int j => if decide (0 ≤ j) then some (.int (i / 2 ^ j.toNat)) else none
  | .BitAnd, .int i, .int j => some (.int (Builtin.bitAnd i j))
  | .BitOr, .int i, .int j => some (.int (Builtin.bitOr i j))
  | .BitXor, .int i, .int j => some (.int (Builtin.bitXor i j))
  | _, _, _ => none

section
variable {X : Cx}
theorem op_fdivL : OpR X (binaryOp .FloorDiv) (rI (fun _ j => j ≠ 0 ∧ j.natAbs.log2 < 9000) fun i j => .int (i.fdiv j)) := opI fun _ _ _ _ _ _ _ hc q => floordiv_int hc.1 q (.inl (PyProof.noPylong_of_log2 hc.2))
theorem ok_bin (op : Operator) : OpR X (binaryOp op) (pR2 X.K (binV op)) := by
  intro pins s σ H x y v u Q I rx ry h
  obtain ⟨p, q, F, r, sf, hp, hq, e, k⟩ := h
  have ki : ∀ i, r = .int i → Q (.int i) H := fun i e => k _ _ _ (.refl sf) (e ▸ frI)
  have kl : ∀ l xs, r = .lst l → Reps X.K F l xs → ∀ p, H p = none → Q (.ref p) (upd H p (.lst xs)) := fun l xs e rr p n => k _ _ _ (.new' sf n) (e ▸ frL sf n rr)
  have kt : ∀ l xs, r = .tup l → Reps X.K F l xs → ∀ p, H p = none → Q (.ref p) (upd H p (.tup xs)) := fun l xs e rr p n => k _ _ _ (.new sf n) (e ▸ frT sf n rr)
  unfold binV at e
  split at e
  · cases e; cases hp.int; cases hq.int
    exact op_add pins s σ H _ _ v u Q I rx ry ⟨_, _, rfl, rfl, ki _ rfl⟩
  · cases e; cases hp.int; cases hq.bl
    exact op_add_ib pins s σ H _ _ v u Q I rx ry ⟨_, _, rfl, rfl, ki _ rfl⟩
  · split at e
    · rename_i c
      cases e; cases hp.str; cases hq.str
      exact op_add_str pins s σ H _ _ v u Q I rx ry ⟨_, _, rfl, rfl, of_decide_eq_true c, k _ _ _ (.refl sf) frS⟩
    · cases e
  · split at e
    · rename_i c
      cases e
      obtain ⟨a, xs, rfl, ha, ra⟩ := hp.tup sf
      obtain ⟨b, ys, rfl, hb, rb⟩ := hq.tup sf
      refine op_catA pins s σ H _ _ v u Q I rx ry ⟨a, b, xs, ys, rfl, rfl, ha.sq, hb.sq, by rw [← ra.length, ← rb.length]; exact of_decide_eq_true c, fun z => ?_, fun _ z => ?_, fun _ _ => kt _ _ rfl (ra.append rb)⟩
      · subst z
        cases ra
        rw [List.nil_append] at k
        refine k _ _ _ (.refl sf) (.of rfl ?_)
        rcases hq with h | ⟨_, _, _, o, _, z⟩
        · exact h
        · exact z.elim
      · subst z
        cases rb
        rw [List.append_nil] at k
        refine k _ _ _ (.refl sf) (.of rfl ?_)
        rcases hp with h | ⟨_, _, _, o, _, z⟩
        · exact h
        · exact z.elim
    · cases e
  · split at e
    · rename_i c
      cases e
      obtain ⟨a, xs, rfl, ha, ra⟩ := hp.lst sf
      obtain ⟨b, ys, rfl, hb, rb⟩ := hq.lst sf
      exact op_cat pins s σ H _ _ v u Q I rx ry ⟨a, b, xs, ys, rfl, rfl, ha, hb, by rw [← ra.length, ← rb.length]; exact of_decide_eq_true c, kl _ _ rfl (ra.append rb)⟩
    · cases e
  · cases e; cases hp.int; cases hq.int
    exact op_sub pins s σ H _ _ v u Q I rx ry ⟨_, _, rfl, rfl, ki _ rfl⟩
  · split at e
    · rename_i c
      cases e; cases hp.int; cases hq.int
      refine op_mul pins s σ H _ _ v u Q I rx ry ⟨_, _, rfl, rfl, ?_, ki _ rfl⟩
      simp only [mulOk, Bool.or_eq_true, decide_eq_true_eq] at c
      rcases c with c | c
      · exact .inl ⟨by omega, by omega⟩
      · exact .inr ⟨by omega, by omega⟩
    · cases e
  · split at e
    · rename_i c
      cases e
      obtain ⟨a, xs, rfl, ha, ra⟩ := hp.lst sf
      cases hq.int
      simp only [Bool.and_eq_true, decide_eq_true_eq, seqOk] at c
      exact op_rep pins s σ H _ _ v u Q I rx ry ⟨a, _, xs, rfl, rfl, ha, c.1.1, c.1.2, by rw [← ra.length]; exact c.2, kl _ _ rfl (ra.flat _)⟩
    · cases e
  · split at e
    · rename_i c
      cases e
      obtain ⟨a, xs, rfl, ha, ra⟩ := hp.tup sf
      cases hq.int
      simp only [Bool.and_eq_true, decide_eq_true_eq] at c
      rename_i l0 k0
      by_cases k1 : k0 = 1
      · subst k1
        rw [show (List.replicate (1 : Int).toNat l0).flatten = l0 from by show (List.replicate 1 l0).flatten = l0; simp] at k
        refine op_repT1 pins s σ H _ _ v u Q I rx ry ⟨a, xs, rfl, rfl, ha.sq, k _ _ _ (.refl sf) (.of rfl ?_)⟩
        rcases hp with h | ⟨_, _, _, o, _, z⟩
        · exact h
        · exact z.elim
      · refine op_repT pins s σ H _ _ v u Q I rx ry ⟨a, _, xs, rfl, rfl, ha.sq, fun z => ?_, by have := c.1.1.1; omega, c.1.1.2, by rw [← ra.length]; exact c.2, kt _ _ rfl (ra.flat _)⟩
        subst z
        have := ra.length
        simp only [List.length_nil] at this
        omega
    · cases e
  · split at e
    · rename_i c
      cases e; cases hp.str; cases hq.int
      simp only [Bool.and_eq_true, decide_eq_true_eq] at c
      exact op_mulS pins s σ H _ _ v u Q I rx ry ⟨_, _, rfl, rfl, c.1.1, c.1.2, c.2, k _ _ _ (.refl sf) frS⟩
    · cases e
  · split at e
    · rename_i c
      cases e; cases hp.int; cases hq.int
      simp only [Bool.and_eq_true, decide_eq_true_eq] at c
      exact op_fdivL pins s σ H _ _ v u Q I rx ry ⟨_, _, rfl, rfl, ⟨c.1, c.2⟩, ki _ rfl⟩
    · cases e
  · split at e
    · rename_i c
      cases e; cases hp.int; cases hq.int
      exact op_modN pins s σ H _ _ v u Q I rx ry ⟨_, _, rfl, rfl, of_decide_eq_true c, ki _ rfl⟩
    · cases e
  · split at e
    · rename_i c
      cases e; cases hp.int; cases hq.int
      simp only [Bool.and_eq_true, decide_eq_true_eq] at c
      exact op_pow pins s σ H _ _ v u Q I rx ry ⟨_, _, rfl, rfl, ⟨c.1.1, c.1.2, c.2⟩, ki _ rfl⟩
    · cases e
  · split at e
    · rename_i c
      cases e; cases hp.int; cases hq.int
      simp only [Bool.and_eq_true, decide_eq_true_eq] at c
      exact op_shl pins s σ H _ _ v u Q I rx ry ⟨_, _, rfl, rfl, ⟨c.1.1, c.1.2, c.2⟩, ki _ rfl⟩
    · cases e
  · split at e
    · rename_i c
      cases e; cases hp.int; cases hq.int
      exact op_shr pins s σ H _ _ v u Q I rx ry ⟨_, _, rfl, rfl, of_decide_eq_true c, ki _ rfl⟩
    · cases e
  · cases e; cases hp.int; cases hq.int
    exact op_and pins s σ H _ _ v u Q I rx ry ⟨_, _, rfl, rfl, ki _ rfl⟩
  · cases e; cases hp.int; cases hq.int
    exact op_or pins s σ H _ _ v u Q I rx ry ⟨_, _, rfl, rfl, ki _ rfl⟩
  · cases e; cases hp.int; cases hq.int
    exact op_xor pins s σ H _ _ v u Q I rx ry ⟨_, _, rfl, rfl, ki _ rfl⟩
  · cases e

def unV : UnaryOp → PV → Option PV
  | .USub, .int i => some (.int (-i))
  | .Invert, .int i => some (.int (Builtin.bitNot i))
  | _, _ => none
theorem ok_un (op : UnaryOp) : UnR X (unaryOp op) (pR1 X.K (unV op)) := by
  intro pins s σ H x v Q I rx h
  obtain ⟨p, F, r, sf, hp, e, k⟩ := h
  unfold unV at e
  split at e
  · cases e; cases hp.int
    exact un_neg pins s σ H _ v Q I rx ⟨_, rfl, k _ _ _ (.refl sf) frI⟩
  · cases e; cases hp.int
    exact un_inv pins s σ H _ v Q I rx ⟨_, rfl, k _ _ _ (.refl sf) frI⟩
  · cases e
end
end Pi

/-! Pi 2b: dicts with tuples of ints and texts for keys. -/
namespace Pi
open PySem PySem.Spec PyProof.Rows L2
def sameK (p q : PV) : Bool := match keysOf p, keysOf q with
  | some a, some b => decide (a = b)
  | _, _ => false
def valP (kvs : List (PV × PV)) (k : PV) : Option PV := (kvs.find? fun kv => sameK kv.1 k).map (·.2)
def putP (kvs : List (PV × PV)) (k p : PV) : List (PV × PV) := if (kvs.any fun kv => sameK kv.1 k) = true then kvs.map (fun kv => if sameK kv.1 k then (kv.1, p) else kv) else kvs ++ [(k, p)]
def isKey (k : PV) : Bool := (keysOf k).isSome
theorem sameK_of {p q : PV} {a b : List Key} (h1 : keysOf p = some a) (h2 : keysOf q = some b) : sameK p q = decide (a = b) := by
  unfold sameK
  rw [h1, h2]
section
variable {K : PySem.W.Frag} {F F' H H' : Hp}
theorem RepT.length : ∀ {kvs : List (PV × PV)} {es : List (List Key × V)}, RepT K F kvs es → kvs.length = es.length
  | _, _, .nil => rfl
  | _, _, .cons _ _ r => by rw [List.length_cons, List.length_cons, RepT.length r]
theorem repT_val {q : PV} {y : List Key} (hq : keysOf q = some y) : ∀ {kvs : List (PV × PV)} {es : List (List Key × V)}, RepT K F kvs es → (valP kvs q = none ∧ valV es y = none) ∨ ∃ p v, valP kvs q = some p ∧ valV es y = some v ∧ Rep K F p v
  | _, _, .nil => .inl ⟨rfl, rfl⟩
  | _, _, .cons (k := k) (p := p) (y := z) (v := v) (l := l) (es := es) hk hp r => by
    by_cases e : z = y
    · refine .inr ⟨p, v, ?_, valV_pos e, hp⟩
      unfold valP
      rw [List.find?_cons, sameK_of hk hq, decide_eq_true e]
      rfl
    · have e1 : valP ((k, p) :: l) q = valP l q := by
        unfold valP
        rw [List.find?_cons, sameK_of hk hq, decide_eq_false e]
      rw [e1, valV_neg e]
      exact repT_val hq r
theorem repT_any {q : PV} {y : List Key} (hq : keysOf q = some y) : ∀ {kvs : List (PV × PV)} {es : List (List Key × V)}, RepT K F kvs es → (kvs.any fun kv => sameK kv.1 q) = es.any fun kv => decide (kv.1 = y)
  | _, _, .nil => rfl
  | _, _, .cons hk hp r => by rw [List.any_cons, List.any_cons, repT_any hq r, sameK_of hk hq]
theorem repT_app : ∀ {kvs lvs : List (PV × PV)} {es fs : List (List Key × V)}, RepT K F kvs es → RepT K F lvs fs → RepT K F (kvs ++ lvs) (es ++ fs)
  | _, _, _, _, .nil, s => s
  | _, _, _, _, .cons a b r, s => .cons a b (repT_app r s)
theorem repT_map {q p : PV} {y : List Key} {v : V} (hq : keysOf q = some y) (hp : Rep K F p v) : ∀ {kvs : List (PV × PV)} {es : List (List Key × V)}, RepT K F kvs es → RepT K F (kvs.map (fun kv => if sameK kv.1 q then (kv.1, p) else kv)) (es.map fun kv => if kv.1 = y then (kv.1, v) else kv)
  | _, _, .nil => .nil
  | _, _, .cons (k := k) (p := p') (y := z) (v := v') (l := l) (es := es) hk hp' r => by
    have ih := repT_map hq hp r
    rw [List.map_cons, List.map_cons]
    by_cases e : z = y
    · have : (if sameK (k, p').1 q = true then ((k, p').1, p) else (k, p')) = (k, p) := by rw [show sameK (k, p').1 q = true from by rw [sameK_of hk hq, decide_eq_true e]]; rfl
      rw [this, if_pos e]
      exact .cons hk hp ih
    · have : (if sameK (k, p').1 q = true then ((k, p').1, p) else (k, p')) = (k, p') := by rw [show sameK (k, p').1 q = false from by rw [sameK_of hk hq, decide_eq_false e]]; rfl
      rw [this, if_neg e]
      exact .cons hk hp' ih
theorem repT_put {q p : PV} {y : List Key} {v : V} (hq : keysOf q = some y) (hp : Rep K F p v) {kvs : List (PV × PV)} {es : List (List Key × V)} (r : RepT K F kvs es) : RepT K F (putP kvs q p) (putK es y v) := by
  unfold putP putK
  rw [repT_any hq r]
  split
  · exact repT_map hq hp r
  · exact repT_app r (.cons hq hp .nil)
theorem keyOf_rep {p : PV} {v : V} {k : Key} (h : keyOf p = some k) (r : Rep K F p v) : v = kV k := by
  cases p <;> first | (cases h; done) | skip
  · cases h
    cases r
    rfl
  · cases h
    cases r
    rfl
theorem keys_reps : ∀ {l : List PV} {xs : List V} {ks : List Key}, l.mapM keyOf = some ks → Reps K F l xs → xs = ks.map kV
  | [], _, ks, h, r => by
    cases r
    simp at h
    subst h
    rfl
  | p :: l, _, ks, h, r => by
    cases r with
    | cons rp rr =>
      rw [List.mapM_cons] at h
      obtain ⟨k, h1, h⟩ := Option.bind_eq_some_iff.mp h
      obtain ⟨ks', h2, h⟩ := Option.bind_eq_some_iff.mp h
      cases h
      rw [keyOf_rep h1 rp, keys_reps h2 rr]
      rfl
/-- a key as it stands in the heap -/
theorem RelB.key {q : PV} {y : V} {ks : List Key} (s : Same F H) (h : RelB K F H q y) (hk : keysOf q = some ks) : ∃ b, y = .ref b ∧ H b = some (.tup (ks.map kV)) := by
  cases q <;> first | (cases hk; done) | skip
  rename_i l
  obtain ⟨a, xs, rfl, ha, ra⟩ := h.tup s
  have := keys_reps hk ra
  subst this
  exact ⟨a, rfl, ha⟩
/-- what a dict holds at a key -/
theorem RelB.dget {kvs : List (PV × PV)} {q : PV} {x y : V} {ks : List Key} (s : Same F H) (hx : RelB K F H (.dic kvs) x) (hy : RelB K F H q y) (hk : keysOf q = some ks) : ∃ a o, x = .ref a ∧ DGet H a y o ∧ ((valP kvs q = none ∧ o = none) ∨ ∃ p v, valP kvs q = some p ∧ o = some v ∧ Rep K F p v) := by
  obtain ⟨a, rfl, es, ha, re⟩ := hx.dic s
  obtain ⟨b, rfl, hb⟩ := hy.key s hk
  refine ⟨a, _, rfl, .t ha hb, ?_⟩
  rcases repT_val hk re with ⟨h1, h2⟩ | ⟨p, v, h1, h2, h3⟩
  · exact .inl ⟨h1, h2⟩
  · exact .inr ⟨p, v, h1, h2, h3⟩
end
end Pi

/-! Pi 3: comparisons, truth, subscripts, calls of built-ins by pure values. -/
namespace Pi
open PySem PySem.Spec PyProof.Rows L2
section
variable {K : PySem.W.Frag} {F F' H H' : Hp} {X : Cx}

def shapedP (p : PV) : Bool := SeqAt.shaped p.toD
/-! ### == -/
def pvEq : PV → PV → Option Bool
  | .int i, .int j => some (decide (i = j))
  | .bl i, .bl j => some (decide (i = j))
  | .str i, .str j => some (decide (i = j))
  | .non, .non => some true
  | p, q => if shapedP p && shapedP q then some (PyData.eqv p.toD q.toD) else none
theorem shaped_lay {p : PV} (h : shapedP p = true) : p.toD.canLay0 = true := SeqAt.canLay_of_shaped h
theorem ok_eq (hu : X.A.units + 64 < cLine) : OpR X (compareOp .Eq) (pR2 X.K fun p q => (pvEq p q).map PV.bl) := by
  intro pins s σ H x y v u Q I rx ry h
  obtain ⟨p, q, F, r, sf, hp, hq, e, k⟩ := h
  replace e := Option.map_eq_some_iff.mp (show (pvEq p q).map PV.bl = some r from e)
  obtain ⟨b, e, rfl⟩ := e
  have kb : Q (.bl b) H := k _ _ _ (.refl sf) frB
  unfold pvEq at e
  split at e
  · cases e; cases hp.int; cases hq.int
    refine op_eq pins s σ H _ _ v u Q I rx ry ⟨rfl, ?_⟩
    rw [dec_int, Bool.beq_eq_decide_eq]
    exact kb
  · cases e; cases hp.bl; cases hq.bl
    refine op_eq pins s σ H _ _ v u Q I rx ry ⟨rfl, ?_⟩
    rw [dec_bl, Bool.beq_eq_decide_eq]
    exact kb
  · cases e; cases hp.str; cases hq.str
    refine op_eq pins s σ H _ _ v u Q I rx ry ⟨rfl, ?_⟩
    rw [dec_str, Bool.beq_eq_decide_eq]
    exact kb
  · cases e; cases hp.non; cases hq.non
    exact op_eq pins s σ H _ _ v u Q I rx ry ⟨rfl, kb⟩
  · split at e
    · rename_i c
      cases e
      simp only [Bool.and_eq_true] at c
      exact op_eqD hu pins s σ H _ _ v u Q I rx ry ⟨_, _, hp.dp sf (shaped_lay c.1), hq.dp sf (shaped_lay c.2), c.1, c.2, kb⟩
    · cases e
theorem ok_ne (hu : X.A.units + 64 < cLine) : OpR X (compareOp .NotEq) (pR2 X.K fun p q => (pvEq p q).map fun b => PV.bl (!b)) := by
  intro pins s σ H x y v u Q I rx ry h
  obtain ⟨p, q, F, r, sf, hp, hq, e, k⟩ := h
  replace e := Option.map_eq_some_iff.mp (show (pvEq p q).map (fun b => PV.bl (!b)) = some r from e)
  obtain ⟨b, e, rfl⟩ := e
  have kb : Q (.bl (!b)) H := k _ _ _ (.refl sf) frB
  unfold pvEq at e
  split at e
  · cases e; cases hp.int; cases hq.int
    refine op_ne pins s σ H _ _ v u Q I rx ry ⟨rfl, ?_⟩
    rw [dec_int, Bool.beq_eq_decide_eq]
    exact kb
  · cases e; cases hp.bl; cases hq.bl
    refine op_ne pins s σ H _ _ v u Q I rx ry ⟨rfl, ?_⟩
    rw [dec_bl, Bool.beq_eq_decide_eq]
    exact kb
  · cases e; cases hp.str; cases hq.str
    refine op_ne pins s σ H _ _ v u Q I rx ry ⟨rfl, ?_⟩
    rw [dec_str, Bool.beq_eq_decide_eq]
    exact kb
  · cases e; cases hp.non; cases hq.non
    exact op_ne pins s σ H _ _ v u Q I rx ry ⟨rfl, kb⟩
  · split at e
    · rename_i c
      cases e
      simp only [Bool.and_eq_true] at c
      exact op_neD hu pins s σ H _ _ v u Q I rx ry ⟨_, _, hp.dp sf (shaped_lay c.1), hq.dp sf (shaped_lay c.2), c.1, c.2, kb⟩
    · cases e

/-! ### in: lists and tuples, any data -/
def inItems : PV → Option (List PV)
  | .tup l => some l
  | .lst l => some l
  | _ => none
def allInts : List PV → Bool
  | [] => true
  | .int _ :: l => allInts l
  | _ :: _ => false
def pvIn (p q : PV) : Option Bool :=
  match q with
  | .dic kvs => if isKey p then some (valP kvs p).isSome else none
  | .str y => match p with
    | .str x => match x.cps.toList with
      | [c] => if x = ⟨#[c]⟩ then some (decide (c ∈ y.cps.toList)) else none
      | _ => none
    | _ => none
  | _ => match inItems q with
    | some l => if shapedP p && SeqAt.shaped (.list (toDs l)) then some (l.any fun z => PyData.eqv z.toD p.toD) else none
    | none => none
theorem toDs_map : ∀ l : List PV, toDs l = l.map PV.toD
  | [] => rfl
  | p :: l => by rw [toDs, toDs_map l, List.map_cons]
theorem DpAll.of_reps (s : Same F H) {l : List PV} {xs : List V} (r : Reps K F l xs) (c : PyData.canLayAll0 (toDs l) = true) : DpAll K H xs (toDs l) := r.dp s c
/-- the things in a container, as data -/
theorem RelB.inD {pins : List (Addr × Obj)} {s : Shared} {σ : L2.St} {F H : Hp} {q : PV} {y : V} {u : Value} {l : List PV} (I : Inv X pins σ H s) (sf : Same F H) (hq : RelB X.K F H q y) (e : inItems q = some l) (ry : RelV y u) (c : PyData.canLayAll0 (toDs l) = true) :
    ∃ bs, Reads s.heap u (.tuple (toDs l)) bs ∨ Reads s.heap u (.list (toDs l)) bs := by
  cases q <;> first | (cases e; done) | skip
  · cases e
    obtain ⟨bs, r⟩ := Dp.reads I _ y u (hq.dp sf (by simpa [PV.toD, PyData.canLay0] using c)) ry
    rw [PV.toD] at r
    exact ⟨bs, .inl r⟩
  · cases e
    obtain ⟨bs, r⟩ := Dp.reads I _ y u (hq.dp sf (by simpa [PV.toD, PyData.canLay0] using c)) ry
    rw [PV.toD] at r
    exact ⟨bs, .inr r⟩
theorem ok_in (hu : X.A.units + 65 < cLine) : OpR X (compareOp .In) (pR2 X.K fun p q => (pvIn p q).map PV.bl) := by
  intro pins s σ H x y v u Q I rx ry h
  obtain ⟨p, q, F, r, sf, hp, hq, e, k⟩ := h
  replace e := Option.map_eq_some_iff.mp (show (pvIn p q).map PV.bl = some r from e)
  obtain ⟨b, e, rfl⟩ := e
  have kb : Q (.bl b) H := k _ _ _ (.refl sf) frB
  unfold pvIn at e
  split at e
  · rename_i kvs
    split at e
    · rename_i hk
      cases e
      obtain ⟨ks, hks⟩ := Option.isSome_iff_exists.mp hk
      obtain ⟨a, o, rfl, g, ho⟩ := hq.dget sf hp hks
      obtain rfl : u = Value.ref a := ry
      refine d_in (by omega) I g rx fun s3 I3 => ⟨.bl o.isSome, H, I3, rfl, ?_⟩
      have : o.isSome = (valP kvs p).isSome := by
        rcases ho with ⟨h1, h2⟩ | ⟨_, _, h1, h2, _⟩ <;> rw [h1, h2] <;> rfl
      rw [this]
      exact kb
    · cases e
  · split at e
    · split at e
      · split at e
        · rename_i c _ hx
          cases e
          cases hp.str; cases hq.str
          exact op_in_sign pins s σ H _ _ v u Q I rx ry ⟨c, _, by rw [hx], rfl, kb⟩
        · cases e
      · cases e
    · cases e
  · split at e
    · rename_i l hl
      split at e
      · rename_i c
        cases e
        simp only [Bool.and_eq_true] at c
        obtain ⟨as, r1⟩ := Dp.reads I _ x v (hp.dp sf (shaped_lay c.1)) rx
        have hl2 := SeqAt.canLay_of_shaped c.2
        simp only [PyData.canLay0] at hl2
        obtain ⟨bs, r2⟩ := hq.inD I sf hl ry hl2
        have hroom : X.A.units + 1 + min (PyData.depthAll (toDs l)) p.toD.depth < cLine := room_in_shaped c.1 hu
        have e2 : ((toDs l).any fun y => PyData.eqv y p.toD) = l.any fun z => PyData.eqv z.toD p.toD := by
          rw [toDs_map, List.any_map]
          rfl
        rcases r2 with r2 | r2
        · exact SeqAt.in_tuple_reads r2 r1 hl2 (SeqAt.canLay_of_shaped c.1) hroom ⟨.bl _, H, I, rfl, by rw [e2]; exact kb⟩
        · exact SeqAt.in_list_reads r2 r1 hl2 (SeqAt.canLay_of_shaped c.1) hroom ⟨.bl _, H, I, rfl, by rw [e2]; exact kb⟩
      · cases e
    · cases e
theorem ok_notIn (hu : X.A.units + 65 < cLine) : OpR X (compareOp .NotIn) (pR2 X.K fun p q => (pvIn p q).map fun b => PV.bl (!b)) := by
  intro pins s σ H x y v u Q I rx ry h
  obtain ⟨p, q, F, r, sf, hp, hq, e, k⟩ := h
  replace e := Option.map_eq_some_iff.mp (show (pvIn p q).map (fun b => PV.bl (!b)) = some r from e)
  obtain ⟨b, e, rfl⟩ := e
  have kb : Q (.bl (!b)) H := k _ _ _ (.refl sf) frB
  unfold pvIn at e
  split at e
  · rename_i kvs
    split at e
    · rename_i hk
      cases e
      obtain ⟨ks, hks⟩ := Option.isSome_iff_exists.mp hk
      obtain ⟨a, o, rfl, g, ho⟩ := hq.dget sf hp hks
      obtain rfl : u = Value.ref a := ry
      refine d_notIn (by omega) I g rx fun s3 I3 => ⟨.bl (!o.isSome), H, I3, rfl, ?_⟩
      have : o.isSome = (valP kvs p).isSome := by
        rcases ho with ⟨h1, h2⟩ | ⟨_, _, h1, h2, _⟩ <;> rw [h1, h2] <;> rfl
      rw [this]
      exact kb
    · cases e
  · split at e
    · split at e
      · split at e
        · rename_i c _ hx
          cases e
          cases hp.str; cases hq.str
          exact op_notIn_sign pins s σ H _ _ v u Q I rx ry ⟨c, _, by rw [hx], rfl, kb⟩
        · cases e
      · cases e
    · cases e
  · split at e
    · rename_i l hl
      split at e
      · rename_i c
        cases e
        simp only [Bool.and_eq_true] at c
        obtain ⟨as, r1⟩ := Dp.reads I _ x v (hp.dp sf (shaped_lay c.1)) rx
        have hl2 := SeqAt.canLay_of_shaped c.2
        simp only [PyData.canLay0] at hl2
        obtain ⟨bs, r2⟩ := hq.inD I sf hl ry hl2
        have hroom : X.A.units + 1 + min (PyData.depthAll (toDs l)) p.toD.depth < cLine := room_in_shaped c.1 hu
        have e2 : ((toDs l).any fun y => PyData.eqv y p.toD) = l.any fun z => PyData.eqv z.toD p.toD := by
          rw [toDs_map, List.any_map]
          rfl
        rcases r2 with r2 | r2
        · exact SeqAt.notIn_tuple_reads r2 r1 hl2 (SeqAt.canLay_of_shaped c.1) hroom ⟨.bl _, H, I, rfl, by rw [e2]; exact kb⟩
        · exact SeqAt.notIn_list_reads r2 r1 hl2 (SeqAt.canLay_of_shaped c.1) hroom ⟨.bl _, H, I, rfl, by rw [e2]; exact kb⟩
      · cases e
    · cases e

/-! ### order -/
def pvLt : PV → PV → Option Bool
  | .int i, .int j => some (decide (i < j))
  | .str i, .str j => some (decide (i.cps.toList < j.cps.toList))
  | _, _ => none
def pvLe : PV → PV → Option Bool
  | .int i, .int j => some (decide (i ≤ j))
  | _, _ => none
theorem ok_lt : OpR X (compareOp .Lt) (pR2 X.K fun p q => (pvLt p q).map PV.bl) := by
  intro pins s σ H x y v u Q I rx ry h
  obtain ⟨p, q, F, r, sf, hp, hq, e, k⟩ := h
  replace e := Option.map_eq_some_iff.mp (show (pvLt p q).map PV.bl = some r from e)
  obtain ⟨b, e, rfl⟩ := e
  have kb : Q (.bl b) H := k _ _ _ (.refl sf) frB
  unfold pvLt at e
  split at e
  · cases e; cases hp.int; cases hq.int
    exact op_lt pins s σ H _ _ v u Q I rx ry ⟨_, _, rfl, rfl, kb⟩
  · cases e; cases hp.str; cases hq.str
    exact op_lt_str pins s σ H _ _ v u Q I rx ry ⟨_, _, rfl, rfl, kb⟩
  · cases e
theorem ok_gt : OpR X (compareOp .Gt) (pR2 X.K fun p q => (pvLt q p).map PV.bl) := by
  intro pins s σ H x y v u Q I rx ry h
  obtain ⟨p, q, F, r, sf, hp, hq, e, k⟩ := h
  replace e := Option.map_eq_some_iff.mp (show (pvLt q p).map PV.bl = some r from e)
  obtain ⟨b, e, rfl⟩ := e
  have kb : Q (.bl b) H := k _ _ _ (.refl sf) frB
  unfold pvLt at e
  split at e
  · cases e; cases hp.int; cases hq.int
    exact op_gt pins s σ H _ _ v u Q I rx ry ⟨_, _, rfl, rfl, kb⟩
  · cases e; cases hp.str; cases hq.str
    exact op_gt_str pins s σ H _ _ v u Q I rx ry ⟨_, _, rfl, rfl, kb⟩
  · cases e
theorem ok_le : OpR X (compareOp .LtE) (pR2 X.K fun p q => (pvLe p q).map PV.bl) := by
  intro pins s σ H x y v u Q I rx ry h
  obtain ⟨p, q, F, r, sf, hp, hq, e, k⟩ := h
  replace e := Option.map_eq_some_iff.mp (show (pvLe p q).map PV.bl = some r from e)
  obtain ⟨b, e, rfl⟩ := e
  have kb : Q (.bl b) H := k _ _ _ (.refl sf) frB
  unfold pvLe at e
  split at e
  · cases e; cases hp.int; cases hq.int
    exact op_le pins s σ H _ _ v u Q I rx ry ⟨_, _, rfl, rfl, kb⟩
  · cases e
theorem ok_ge : OpR X (compareOp .GtE) (pR2 X.K fun p q => (pvLe q p).map PV.bl) := by
  intro pins s σ H x y v u Q I rx ry h
  obtain ⟨p, q, F, r, sf, hp, hq, e, k⟩ := h
  replace e := Option.map_eq_some_iff.mp (show (pvLe q p).map PV.bl = some r from e)
  obtain ⟨b, e, rfl⟩ := e
  have kb : Q (.bl b) H := k _ _ _ (.refl sf) frB
  unfold pvLe at e
  split at e
  · cases e; cases hp.int; cases hq.int
    exact op_ge pins s σ H _ _ v u Q I rx ry ⟨_, _, rfl, rfl, kb⟩
  · cases e
/-- is, is not: None; bools -/
def pvIs : PV → PV → Option Bool
  | .bl a, .bl b => some (decide (a = b))
  | .non, .non => some true
  | _, .non => some false
  | _, _ => none
theorem RelB.ne_non {p : PV} {v : V} (h : RelB K F H p v) (n : p ≠ .non) : v ≠ .non := by
  rintro rfl
  rcases h with h | ⟨a, e, _⟩
  · cases h; exact n rfl
  · cases e
theorem ok_is : OpR X (compareOp .Is) (pR2 X.K fun p q => (pvIs p q).map PV.bl) := by
  intro pins s σ H x y v u Q I rx ry h
  obtain ⟨p, q, F, r, sf, hp, hq, e, k⟩ := h
  replace e := Option.map_eq_some_iff.mp (show (pvIs p q).map PV.bl = some r from e)
  obtain ⟨b, e, rfl⟩ := e
  have kb : Q (.bl b) H := k _ _ _ (.refl sf) frB
  unfold pvIs at e
  split at e
  · cases e; cases hp.bl; cases hq.bl
    exact op_isBl pins s σ H _ _ v u Q I rx ry ⟨_, _, rfl, rfl, kb⟩
  · cases e; cases hp.non; cases hq.non
    exact op_isN pins s σ H _ _ v u Q I rx ry ⟨rfl, kb⟩
  · rename_i n
    cases e; cases hq.non
    exact op_isN pins s σ H _ _ v u Q I rx ry ⟨rfl, by rw [decide_eq_false (hp.ne_non n)]; exact kb⟩
  · cases e
theorem ok_isNot : OpR X (compareOp .IsNot) (pR2 X.K fun p q => (pvIs p q).map fun b => PV.bl (!b)) := by
  intro pins s σ H x y v u Q I rx ry h
  obtain ⟨p, q, F, r, sf, hp, hq, e, k⟩ := h
  replace e := Option.map_eq_some_iff.mp (show (pvIs p q).map (fun b => PV.bl (!b)) = some r from e)
  obtain ⟨b, e, rfl⟩ := e
  have kb : Q (.bl (!b)) H := k _ _ _ (.refl sf) frB
  unfold pvIs at e
  split at e
  · cases e; cases hp.bl; cases hq.bl
    exact op_notBl pins s σ H _ _ v u Q I rx ry ⟨_, _, rfl, rfl, kb⟩
  · cases e; cases hp.non; cases hq.non
    exact op_notN pins s σ H _ _ v u Q I rx ry ⟨rfl, kb⟩
  · rename_i n
    cases e; cases hq.non
    exact op_notN pins s σ H _ _ v u Q I rx ry ⟨rfl, by rw [decide_eq_false (hp.ne_non n)]; exact kb⟩
  · cases e
/-- a comparison -/
def cmpV : CmpOp → PV → PV → Option Bool
  | .Eq, p, q => pvEq p q
  | .NotEq, p, q => (pvEq p q).map (!·)
  | .Lt, p, q => pvLt p q
  | .Gt, p, q => pvLt q p
  | .LtE, p, q => pvLe p q
  | .GtE, p, q => pvLe q p
  | .In, p, q => pvIn p q
  | .NotIn, p, q => (pvIn p q).map (!·)
  | .Is, p, q => pvIs p q
  | .IsNot, p, q => (pvIs p q).map (!·)
theorem ok_cmp (hu : X.A.units + 65 < cLine) (op : CmpOp) : OpR X (compareOp op) (pR2 X.K fun p q => (cmpV op p q).map PV.bl) := by
  have m : ∀ o : Option Bool, (o.map (!·)).map PV.bl = o.map fun b => PV.bl (!b) := fun o => by cases o <;> rfl
  have hu' : X.A.units + 64 < cLine := by omega
  cases op
  · exact ok_eq hu'
  · simp only [cmpV, m]; exact ok_ne hu'
  · exact ok_lt
  · exact ok_le
  · exact ok_gt
  · exact ok_ge
  · exact ok_is
  · simp only [cmpV, m]; exact ok_isNot
  · exact ok_in hu
  · simp only [cmpV, m]; exact ok_notIn hu
end
end Pi

/-! Pi 4: truth, subscripts, slices, built-in calls by pure values. -/
namespace PyProof.Rows
open PySem
section
variable {prog : Program} {w : World} {A : Around} {E : Value → Shared → Prop} {s : Shared}
theorem collect_tupleP {l : Addr} {vs : List Value} {Q : List Value → Shared → Prop} (hl : s.heap.IsTuple l vs.toArray)
    (h : Q vs { s with heap := (s.heap.push (seqObj "list" #[] 0)).update s.heap.objs.size (Obj.mapSeq (· ++ vs.toArray)) }) (hsz : vs.length ≤ sizeLine := by size_fits) :
    wpAny (model prog w) A (collect (.ref l)) Q E s := by
  obtain ⟨o, ho, hc, n, hd⟩ := id hl
  unfold collect
  refine wpAny_bind (wpAny_runValue (codeAny_builtin entry_proto_collect' ?_))
  show wpAny _ _ (do again (.builtin "list.__iadd__" ⟨[← newList [], .ref l], []⟩)) _ _ s
  refine wpAny_bind (wpAny_newList (wpAny_pure ⟨Code.quiet_builtin _ (by decide +kernel), codeAny_builtin entry_list_iadd' ?_⟩))
  show wpAny _ _ (Builtin.List.listExtendWith (.ref s.heap.objs.size) (.ref l) (.ref s.heap.objs.size)) _ _ { s with heap := s.heap.push (seqObj "list" #[] 0) }
  unfold Builtin.List.listExtendWith
  have ho' : (s.heap.push (seqObj "list" #[] 0)).get? l = some o := Heap.get?_push_of_some _ ho
  refine wpAny_bind (wpAny_typeOf (T := "tuple") ⟨o, ho', hc⟩ ?_)
  have ht : (Value.type "tuple" == Value.type "tuple") = true := by rfl
  rw [if_pos (by rw [ht]; simp)]
  refine wpAny_bind (listItems_at ho' hd ?_)
  refine wpAny_bind (listItems_at (xs := #[]) (n := 0) (Heap.get?_push_size _ rfl) rfl ?_)
  rw [if_neg (by simp)]
  refine wpAny_bind (listUpdate_at (xs := #[]) (n := 0) (Heap.get?_push_size _ rfl) rfl ?_ (Nat.zero_le _) (by show (#[] ++ vs.toArray).size ≤ sizeLine + 1; simp only [Array.size_append, List.size_toArray, List.length_nil]; omega))
  refine wpAny_pure ?_
  show wpAny (model prog w) A (do
      let o ← load s.heap.objs.size
      match o.data with
      | .seq xs _ => pure xs.toList
      | _ => unsupported "internal:collect") Q E { s with heap := (s.heap.push (seqObj "list" #[] 0)).update s.heap.objs.size (Obj.mapSeq (· ++ vs.toArray)) }
  refine wpAny_bind (wpAny_load (get?_update_seq (Heap.get?_push_size _ rfl) _) ?_)
  show wpAny _ _ (pure ((#[] : Array Value) ++ vs.toArray).toList) Q E _
  rw [show ((#[] : Array Value) ++ vs.toArray).toList = vs by simp]
  exact wpAny_pure h
end
end PyProof.Rows
namespace PySem.W
open PySem PySem.Calls PyProof.Rows
section
variable {prog : Program} {w : World} {A : Around} {E : Value → Shared → Prop} {s : Shared} {β : Type} {R : Value → β → Prop} {enc : β → PyData} {vs : List Value} {bs : List β}
theorem sorted_of_sortT {l : Addr} {vs : List Value} {kw : List (Str × Value)} {Q : Value → Shared → Prop} (hl : s.heap.IsTuple l vs.toArray) (hL : vs.length ≤ sizeLine) (ha1 : argsOk "sorted" ⟨[.ref l], kw⟩) (ha2 : ∀ x, argsOk "list.sort" ⟨[.ref x], kw⟩)
    (body : ∀ E' : Value → Shared → Prop, wpAny (model prog w) A.in1.in1 (Builtin.«list.sort» ⟨[.ref (s.heap.objs.size + 1)], kw⟩) (fun f s' => f = .done (.ret .none) ∧ Q (.ref (s.heap.objs.size + 1)) s') E' { s with heap := copyHeap s.heap vs }) :
    wpAny (model prog w) A (call (.builtin "sorted") [.ref l] kw) Q E s := by
  refine call_function_entry_kw kind_sorted plain_sorted entry_sorted ha1 ?_
  unfold Builtin.«sorted»
  refine wpAny_bind (m := checkCount "sorted" 1 1 _) (wpAny_pure ?_)
  refine wpAny_bind (collect_tupleP hl ?_ hL)
  refine wpAny_bind (wpAny_newList ?_ hL)
  have hsz : ((s.heap.push (seqObj "list" #[] 0)).update s.heap.objs.size (Obj.mapSeq (· ++ vs.toArray))).objs.size = s.heap.objs.size + 1 := by
    rw [Heap.size_update, size_push']
  show wpAny _ _ _ _ _ { s with heap := copyHeap s.heap vs }
  rw [hsz]
  refine wpAny_bind (wpAny_holding (wpAny_call_entry_kw slot_list_sort ⟨_, copyHeap_at s.heap vs, rfl⟩ entry_list_sort ?body (ha2 _)))
  case body =>
    show wpAny (model prog w) A.in1.in1 (Builtin.«list.sort» ⟨[.ref (s.heap.objs.size + 1)], kw⟩) _ _ _
    refine wpAny_mono (body _) (fun f s' hf => ?_) fun _ _ e => e
    obtain ⟨rfl, hq⟩ := hf
    exact ⟨_, rfl, wpAny_pure ⟨_, rfl, hq⟩⟩
theorem sorted_dataT {l : Addr} {Q : Value → Shared → Prop} (hl : s.heap.IsTuple l vs.toArray) (e : EachIs R vs bs) (er : EachIs (fun v b => ∃ as, Reads s.heap v (enc b) as) vs bs) (hal : AllAlike (bs.map enc)) (hk : Sortable (bs.map enc)) (hL : bs.length ≤ sizeLine)
    (hu : ∀ b, b ∈ bs → A.units + 2 + (enc b).depth < cLine) (h : ∀ out, out.length = bs.length → EachIs R out (bs.mergeSort (dataLe false enc)) → Q (.ref (s.heap.objs.size + 1)) { s with heap := sortedAll s.heap vs (List.toArray out) }) :
    wpAny (model prog w) A (call (.builtin "sorted") [.ref l]) Q E s := by
  have er' : EachIs (fun v b => ∃ as, Reads (sortingHeap (copyHeap s.heap vs) (s.heap.objs.size + 1) vs) v (enc b) as) vs bs := er.mono fun _ _ ⟨as, r⟩ => ⟨as, PyProof.Rows.Reads.keeps (fun _ _ => sorting_copy_old) r⟩
  have hL' : vs.length ≤ sizeLine := by rw [e.length]; exact hL
  exact sorted_of_sortT hl hL' (args_sorted1 _) (fun _ => args_list_sort _) fun _ => list_sort_vals (s := { s with heap := copyHeap s.heap vs }) (copyHeap_at s.heap vs)
    (SortsAt.data (s := { s with heap := sortingHeap (copyHeap s.heap vs) (s.heap.objs.size + 1) vs }) (each_map (R := fun v d => ∃ as, Reads (sortingHeap (copyHeap s.heap vs) (s.heap.objs.size + 1) vs) v d as) enc er') hal hk (bound_map hu)) hL'
    ⟨rfl, h _ (by rw [sortVals_length false rfl]; exact e.length) (sortVals_data false e er' hal)⟩
end
end PySem.W

namespace Pi
open PySem PySem.Spec PyProof.Rows L2
section
variable {K : PySem.W.Frag} {F F' H H' : Hp} {X : Cx}

/-! ### truth -/
def truV : PV → Option Bool
  | .non => some false
  | .bl b => some b
  | .int i => some (i != 0)
  | .str y => if seqOk y.length then some ((y.length : Int) != 0) else none
  | .tup l => some (!l.isEmpty)
  | .lst l => some (!l.isEmpty)
  | .scr l => some (!l.isEmpty)
  | .dic _ => none
theorem isEmpty_reps {l : List PV} {xs : List V} (r : Reps K F l xs) : l.isEmpty = xs.isEmpty := by cases r <;> rfl
theorem RelB.truth {p : PV} {x : V} {b : Bool} (s : Same F H) (h : RelB K F H p x) (e : truV p = some b) : TruV K x H b := by
  cases p with
  | non => cases h.non; cases e; rfl
  | bl _ => cases h.bl; cases e; rfl
  | int _ => cases h.int; cases e; rfl
  | str y =>
    cases h.str
    simp only [truV] at e
    split at e
    · rename_i c
      cases e
      exact ⟨of_decide_eq_true c, rfl⟩
    · cases e
  | tup l =>
    obtain ⟨a, xs, rfl, ha, ra⟩ := h.tup s
    cases e
    exact .inr (.inl ⟨xs, ha.sq, by rw [isEmpty_reps ra]⟩)
  | lst l =>
    obtain ⟨a, xs, rfl, ha, ra⟩ := h.lst s
    cases e
    exact .inl ⟨xs, .of ha, by rw [isEmpty_reps ra]⟩
  | scr l =>
    obtain ⟨a, xs, rfl, ha, ra⟩ := h.scr s
    cases e
    exact .inl ⟨xs, ha, by rw [isEmpty_reps ra]⟩
  | dic _ => cases e

/-! ### subscripts -/
def ixV : PV → PV → Option PV
  | .tup l, .int i => atI l i
  | .lst l, .int i => atI l i
  | .scr l, .int i => atI l i
  | .str z, .int i => if seqOk z.length then (atI z.cps.toList i).map fun c => .str ⟨#[c]⟩ else none
  | .dic kvs, q => if isKey q then valP kvs q else none
  | _, _ => none
theorem Reps.at {l : List PV} {xs : List V} {i : Int} {p : PV} (r : Reps K F l xs) (e : atI l i = some p) : ∃ v, atI xs i = some v ∧ Rep K F p v := by
  unfold atI at e ⊢
  rw [r.length] at e
  cases q : ixN xs.length i with
  | none => rw [q] at e; cases e
  | some j =>
    rw [q] at e
    exact r.get e
/-- an item: a value, whatever it is -/
theorem RelFr.item {H1 : Hp} {p : PV} {v : V} (h : Rep K F p v) : Rep K F p v := h
/-- a subscript hands out a value -/
def pR2v (K : PySem.W.Frag) (g : PV → PV → Option PV) : R2 := fun x y H Q => ∃ p q F r, Same F H ∧ RelB K F H p x ∧ RelB K F H q y ∧ g p q = some r ∧ ∀ v H' F', Stp F H F' H' → Rep K F' r v → Q v H'
theorem ok_ix (hu : X.A.units + 65 < cLine) : IxR X (pR2v X.K ixV) := by
  intro value slice pins s σ H x y v u Q I rx ry h
  obtain ⟨p, q, F, r, sf, hp, hq, e, k⟩ := h
  unfold ixV at e
  split at e
  · obtain ⟨a, xs, rfl, ha, ra⟩ := hp.tup sf
    cases hq.int
    obtain ⟨z, e2, rz⟩ := ra.at e
    exact ix_tup value slice pins s σ H _ _ v u Q I rx ry ⟨a, xs, _, z, rfl, rfl, ha.sq, e2, k _ _ _ (.refl sf) rz⟩
  · obtain ⟨a, xs, rfl, ha, ra⟩ := hp.lst sf
    cases hq.int
    obtain ⟨z, e2, rz⟩ := ra.at e
    exact ix_list value slice pins s σ H _ _ v u Q I rx ry ⟨a, xs, _, z, rfl, rfl, .of ha, e2, k _ _ _ (.refl sf) rz⟩
  · obtain ⟨a, xs, rfl, ha, ra⟩ := hp.scr sf
    cases hq.int
    obtain ⟨z, e2, rz⟩ := ra.at e
    exact ix_list value slice pins s σ H _ _ v u Q I rx ry ⟨a, xs, _, z, rfl, rfl, ha, e2, k _ _ _ (.refl sf) rz⟩
  · split at e
    · rename_i c
      cases hp.str; cases hq.int
      obtain ⟨z, e2, rfl⟩ := Option.map_eq_some_iff.mp e
      exact ix_str value slice pins s σ H _ _ v u Q I rx ry ⟨_, _, z, rfl, rfl, of_decide_eq_true c, e2, k _ _ _ (.refl sf) (.str _)⟩
    · cases e
  · split at e
    · rename_i hk
      obtain ⟨ks, hks⟩ := Option.isSome_iff_exists.mp hk
      obtain ⟨a, o, rfl, g, ho⟩ := hp.dget sf hq hks
      obtain rfl : v = Value.ref a := rx
      rcases ho with ⟨h1, _⟩ | ⟨p', z, h1, rfl, rz⟩
      · rw [h1] at e
        cases e
      · rw [h1] at e
        cases e
        intro hs
        exact tail_any (dict_typeIs I g) PySem.F.slot_dict_getitem.lookup (d_getItem (by omega) I g ry fun w' s3 I3 rw' => ⟨z, H, I3, rw', k _ _ _ (.refl sf) rz⟩) hs
    · cases e
  · cases e

/-! ### slices -/
def cutP (xs : List PV) (lo hi : Option Int) : List PV := (xs.drop (HT.sIx xs.length 0 lo)).take (HT.sIx xs.length xs.length hi - HT.sIx xs.length 0 lo)
theorem Reps.cut {l : List PV} {xs : List V} (lo hi : Option Int) (r : Reps K F l xs) : Reps K F (cutP l lo hi) (cutV xs lo hi) := by
  unfold cutP cutV
  rw [r.length]
  exact (r.drop _).take _
def slV : PV → Option Int → Option Int → Option PV
  | .tup l, lo, hi => some (.tup (cutP l lo hi))
  | .lst l, lo, hi => some (.lst (cutP l lo hi))
  | .str z, lo, hi => if seqOk z.length then some (.str (Txt.slice z lo hi)) else none
  | _, _, _ => none
def pSl (K : PySem.W.Frag) : V → Option Int → Option Int → Hp → VK → Prop := fun x lo hi H Q => ∃ p F r, Same F H ∧ RelB K F H p x ∧ slV p lo hi = some r ∧ ∀ v H' F', Stp F H F' H' → RelFr K H F' H' r v → Q v H'
theorem cutP_whole {l : List PV} {lo hi : Option Int} (h : HT.sIx l.length 0 lo = 0 ∧ HT.sIx l.length l.length hi = l.length) : cutP l lo hi = l := by
  unfold cutP
  rw [h.1, h.2, List.drop_zero, Nat.sub_zero, List.take_length]
theorem ok_sl : SlR X (pSl X.K) := by
  intro pins s σ H x v vl vu lo hi sl Q I rx hs pl pu h
  obtain ⟨p, F, r, sf, hp, e, k⟩ := h
  unfold slV at e
  split at e
  · cases e
    obtain ⟨a, xs, rfl, ha, ra⟩ := hp.tup sf
    refine sl_tupA pins s σ H _ v vl vu lo hi sl Q I rx hs pl pu ⟨a, xs, rfl, ha.sq, fun w => ?_, fun _ z n => k _ _ _ (.new sf n) (frT sf n (ra.cut lo hi))⟩
    rw [cutP_whole (by rw [ra.length]; exact w)] at k
    refine k _ _ _ (.refl sf) (.of rfl ?_)
    rcases hp with h | ⟨_, _, _, o, _, z⟩
    · exact h
    · exact z.elim
  · cases e
    obtain ⟨a, xs, rfl, ha, ra⟩ := hp.lst sf
    exact sl_list pins s σ H _ v vl vu lo hi sl Q I rx hs pl pu ⟨a, xs, rfl, .of ha, fun z n => k _ _ _ (.new' sf n) (frL sf n (ra.cut lo hi))⟩
  · split at e
    · rename_i c
      cases e
      cases hp.str
      exact C8.sl_txt pins s σ H _ v vl vu lo hi sl Q I rx hs pl pu ⟨_, rfl, of_decide_eq_true c, k _ _ _ (.refl sf) frS⟩
    · cases e
  · cases e

/-! ### calls of built-ins -/
def lenV : PV → Option Int
  | .tup l => some l.length
  | .lst l => some l.length
  | .scr l => some l.length
  | .str z => if seqOk z.length then some z.length else none
  | .dic kvs => some kvs.length
  | _ => none
theorem RelBs.one {p : PV} {xs : List V} (h : RelBs K F H [p] xs) : ∃ v, xs = [v] ∧ RelB K F H p v := by
  cases h with
  | cons a b => cases b; exact ⟨_, rfl, a⟩
theorem RelBs.two {p q : PV} {xs : List V} (h : RelBs K F H [p, q] xs) : ∃ v u, xs = [v, u] ∧ RelB K F H p v ∧ RelB K F H q u := by
  cases h with
  | cons a b =>
    obtain ⟨u, rfl, c⟩ := b.one
    exact ⟨_, _, rfl, a, c⟩
def g1 (f : PV → Option PV) : List PV → Option PV
  | [p] => f p
  | _ => none
theorem g1_of {f : PV → Option PV} {ps : List PV} {r : PV} (e : g1 f ps = some r) : ∃ p, ps = [p] ∧ f p = some r := by
  unfold g1 at e
  split at e
  · exact ⟨_, rfl, e⟩
  · cases e
theorem ok_len : CallR X (.builtin "len") (pRL X.K (g1 fun p => (lenV p).map PV.int)) := by
  intro pins s σ H xs us Q I rv h
  obtain ⟨ps, F, r, sf, hp, e, k⟩ := h
  obtain ⟨p, rfl, e1⟩ := g1_of e
  clear e; have e := e1; clear e1
  obtain ⟨n, e1, rfl⟩ := Option.map_eq_some_iff.mp e
  clear e; have e := e1; clear e1
  obtain ⟨v, rfl, hv⟩ := hp.one
  have ki : Q (.int n) H := k _ _ _ (.refl sf) frI
  unfold lenV at e
  split at e
  · cases e
    obtain ⟨a, xs, rfl, ha, ra⟩ := hv.tup sf
    exact call_len pins s σ H _ us Q I rv ⟨_, _, rfl, .inr ⟨xs, ha.sq, rfl⟩, by rw [← ra.length]; exact ki⟩
  · cases e
    obtain ⟨a, xs, rfl, ha, ra⟩ := hv.lst sf
    exact call_len pins s σ H _ us Q I rv ⟨_, _, rfl, .inl ⟨xs, .of ha, rfl⟩, by rw [← ra.length]; exact ki⟩
  · cases e
    obtain ⟨a, xs, rfl, ha, ra⟩ := hv.scr sf
    exact call_len pins s σ H _ us Q I rv ⟨_, _, rfl, .inl ⟨xs, ha, rfl⟩, by rw [← ra.length]; exact ki⟩
  · split at e
    · rename_i c
      cases e
      cases hv.str
      exact call_len pins s σ H _ us Q I rv ⟨_, _, rfl, ⟨of_decide_eq_true c, rfl⟩, ki⟩
    · cases e
  · cases e
    obtain ⟨a, rfl, es, ha, re⟩ := hv.dic sf
    exact call_len_dT pins s σ H _ us Q I rv ⟨a, es, rfl, ha, by rw [← re.length]; exact ki⟩
  · cases e
def intV : PV → Option PV
  | .int i => some (.int i)
  | .bl b => some (.int (if b then 1 else 0))
  | _ => none
theorem ok_int : CallR X (.type "int") (pRL X.K (g1 intV)) := by
  intro pins s σ H xs us Q I rv h
  obtain ⟨ps, F, r, sf, hp, e, k⟩ := h
  obtain ⟨p, rfl, e1⟩ := g1_of e
  clear e; have e := e1; clear e1
  obtain ⟨v, rfl, hv⟩ := hp.one
  unfold intV at e
  split at e
  · cases e
    cases hv.int
    exact call_int1 pins s σ H _ us Q I rv (.inl ⟨_, rfl, k _ _ _ (.refl sf) frI⟩)
  · cases e
    cases hv.bl
    exact call_int1 pins s σ H _ us Q I rv (.inr ⟨_, rfl, k _ _ _ (.refl sf) frI⟩)
  · cases e
def absV : PV → Option PV
  | .int i => some (.int (if i < 0 then -i else i))
  | _ => none
theorem ok_abs : CallR X (.builtin "abs") (pRL X.K (g1 absV)) := by
  intro pins s σ H xs us Q I rv h
  obtain ⟨ps, F, r, sf, hp, e, k⟩ := h
  obtain ⟨p, rfl, e1⟩ := g1_of e
  clear e; have e := e1; clear e1
  obtain ⟨v, rfl, hv⟩ := hp.one
  unfold absV at e
  split at e
  · cases e
    cases hv.int
    exact call_abs pins s σ H _ us Q I rv ⟨_, rfl, k _ _ _ (.refl sf) frI⟩
  · cases e
/-- tuple(x), list(x) -/
def tupleV : PV → Option PV
  | .tup l => some (.tup l)
  | .lst l => some (.tup l)
  | _ => none
def listV : PV → Option PV
  | .tup l => some (.lst l)
  | .lst l => some (.lst l)
  | .scr l => some (.lst l)
  | _ => none
theorem RelB.repT {l : List PV} {v : V} (h : RelB K F H (.tup l) v) : Rep K F (.tup l) v := by
  rcases h with h | ⟨_, _, _, o, _, z⟩
  · exact h
  · exact z.elim
theorem ok_tuple : CallR X (.type "tuple") (pRL X.K (g1 tupleV)) := by
  intro pins s σ H xs us Q I rv h
  obtain ⟨ps, F, r, sf, hp, e, k⟩ := h
  obtain ⟨p, rfl, e1⟩ := g1_of e
  clear e; have e := e1; clear e1
  obtain ⟨v, rfl, hv⟩ := hp.one
  unfold tupleV at e
  split at e
  · cases e
    obtain ⟨a, xs, rfl, ha, ra⟩ := hv.tup sf
    exact call_tuple_of pins s σ H _ us Q I rv ⟨a, xs, rfl, .inr ⟨ha.sq, k _ _ _ (.refl sf) (.of rfl hv.repT)⟩⟩
  · cases e
    obtain ⟨a, xs, rfl, ha, ra⟩ := hv.lst sf
    exact call_tuple_of pins s σ H _ us Q I rv ⟨a, xs, rfl, .inl ⟨.of ha, fun z n => k _ _ _ (.new sf n) (frT sf n ra)⟩⟩
  · cases e
theorem ok_list : CallR X (.type "list") (pRL X.K (g1 listV)) := by
  intro pins s σ H xs us Q I rv h
  obtain ⟨ps, F, r, sf, hp, e, k⟩ := h
  obtain ⟨p, rfl, e1⟩ := g1_of e
  clear e; have e := e1; clear e1
  obtain ⟨v, rfl, hv⟩ := hp.one
  unfold listV at e
  split at e
  · cases e
    obtain ⟨a, xs, rfl, ha, ra⟩ := hv.tup sf
    exact call_list_of pins s σ H _ us Q I rv ⟨a, xs, rfl, .inr ha.sq, fun z n => k _ _ _ (.new' sf n) (frL sf n ra)⟩
  · cases e
    obtain ⟨a, xs, rfl, ha, ra⟩ := hv.lst sf
    exact call_list_of pins s σ H _ us Q I rv ⟨a, xs, rfl, .inl (.of ha), fun z n => k _ _ _ (.new' sf n) (frL sf n ra)⟩
  · cases e
    obtain ⟨a, xs, rfl, ha, ra⟩ := hv.scr sf
    exact call_list_of pins s σ H _ us Q I rv ⟨a, xs, rfl, .inl ha, fun z n => k _ _ _ (.new' sf n) (frL sf n ra)⟩
  · cases e

/-! ### over data: a list or tuple -/
def seqOf : PV → Option (List PV)
  | .tup l => some l
  | .lst l => some l
  | _ => none
theorem readsAll_of {pins : List (Addr × Obj)} {s : Shared} {σ : L2.St} {F H : Hp} (I : Inv X pins σ H s) (sf : Same F H) {l : List PV} {xs : List V} {its : List Value} (r : Reps X.K F l xs) (rv : Vals xs its) (c : PyData.canLayAll0 (toDs l) = true) :
    ∃ as, ReadsAll s.heap its (toDs l) as := Dp.readsAll I _ _ its (r.dp sf c) rv
/-- the items of a list or tuple in the heap -/
theorem seq_heap {pins : List (Addr × Obj)} {s : Shared} {σ : L2.St} {F H : Hp} (I : Inv X pins σ H s) (sf : Same F H) {p : PV} {v : V} {u : Value} {l : List PV} (hv : RelB X.K F H p v) (e : seqOf p = some l) (ru : RelV v u) :
    ∃ a xs its, u = .ref a ∧ Reps X.K F l xs ∧ Vals xs its ∧ xs.length ≤ sizeLine ∧ (s.heap.IsList a its.toArray ∨ s.heap.IsTuple a its.toArray) := by
  cases p <;> first | (cases e; done) | skip
  · cases e
    obtain ⟨a, xs, rfl, ha, ra⟩ := hv.tup sf
    obtain ⟨its, rv, pl, hz⟩ := I.tuple ha.sq
    cases ru
    exact ⟨a, xs, its, rfl, ra, rv, hz, .inr pl⟩
  · cases e
    obtain ⟨a, xs, rfl, ha, ra⟩ := hv.lst sf
    obtain ⟨its, rv, pl, hz⟩ := I.list (.of ha)
    cases ru
    exact ⟨a, xs, its, rfl, ra, rv, hz, .inl pl.isList⟩
def intsOf : List PV → Option (List Int)
  | [] => some []
  | .int i :: l => (intsOf l).map (i :: ·)
  | _ :: _ => none
theorem intsOf_map : ∀ {l : List PV} {ns : List Int}, intsOf l = some ns → l = ns.map PV.int
  | [], _, e => by cases e; rfl
  | p :: l, ns, e => by
    cases p <;> first | (cases e; done) | skip
    obtain ⟨m, e1, rfl⟩ := Option.map_eq_some_iff.mp (show (intsOf l).map _ = some ns from e)
    rw [intsOf_map e1]
    rfl
theorem intsOf_ints : ∀ ns : List Int, intsOf (ns.map PV.int) = some ns
  | [] => rfl
  | n :: ns => by
    show (intsOf (ns.map PV.int)).map (n :: ·) = _
    rw [intsOf_ints ns]
    rfl
def blsOf : List PV → Option (List Bool)
  | [] => some []
  | .bl i :: l => (blsOf l).map (i :: ·)
  | _ :: _ => none
theorem blsOf_map : ∀ {l : List PV} {ns : List Bool}, blsOf l = some ns → l = ns.map PV.bl
  | [], _, e => by cases e; rfl
  | p :: l, ns, e => by
    cases p <;> first | (cases e; done) | skip
    obtain ⟨m, e1, rfl⟩ := Option.map_eq_some_iff.mp (show (blsOf l).map _ = some ns from e)
    rw [blsOf_map e1]
    rfl
theorem blsOf_bls : ∀ ns : List Bool, blsOf (ns.map PV.bl) = some ns
  | [] => rfl
  | n :: ns => by
    show (blsOf (ns.map PV.bl)).map (n :: ·) = _
    rw [blsOf_bls ns]
    rfl
def sumV (p : PV) : Option PV := (seqOf p).bind fun l => (intsOf l).map fun ns => .int ns.sum
theorem ok_sum (hc : X.calm = true) : CallR X (.builtin "sum") (pRL X.K (g1 sumV)) := by
  intro pins s σ H xs us Q I rv h
  obtain ⟨ps, F, r, sf, hp, e, k⟩ := h
  obtain ⟨p, rfl, e1⟩ := g1_of e
  clear e; have e := e1; clear e1
  obtain ⟨v, rfl, hv⟩ := hp.one
  obtain ⟨l, e1, e9⟩ := Option.bind_eq_some_iff.mp e
  clear e; have e := e9; clear e9
  obtain ⟨ns, e2, rfl⟩ := Option.map_eq_some_iff.mp e
  have el := intsOf_map e2
  subst el
  obtain ⟨u, rfl, ru⟩ := vals1 rv
  obtain ⟨a, xs, its, rfl, ra, rx, hz, hh⟩ := seq_heap I sf hv e1 ru
  have ex := ra.ints
  subst ex
  have ki : Q (.int ns.sum) H := k _ _ _ (.refl sf) frI
  rcases hh with hh | hh
  · exact sum_raw (I.ok.hd hc) hh rx.ints fun h' tk t' hk => ⟨.int _, H, I.kept hk, ⟨_, rfl⟩, ki⟩
  · obtain ⟨zs, ez⟩ := rx.ints.allInts.items
    have hn : numsOf (intItems zs).toList = ns := by rw [← ez]; exact rx.ints.numsOf
    rw [nums_intItems] at hn
    rw [ez] at hh
    refine PySem.W.ktm_sumG (I.ok.hd hc) hh fun h' tk t' hk => ?_
    rw [preSum_eq, List.take_of_length_le (by simp), hn]
    exact ⟨.int _, H, I.kept hk, ⟨_, rfl⟩, ki⟩
def allV (p : PV) : Option PV := (seqOf p).bind fun l => (blsOf l).map fun bs => .bl (bs.all id)
def anyV (p : PV) : Option PV := (seqOf p).bind fun l => (blsOf l).map fun bs => .bl (bs.any id)
theorem toDs_bls : ∀ bs : List Bool, toDs (bs.map PV.bl) = bs.map PyData.bool
  | [] => rfl
  | b :: bs => by rw [List.map_cons, toDs, toDs_bls bs]; rfl
theorem plain_bls : ∀ bs : List Bool, PyData.plainAll (bs.map PyData.bool) = true
  | [] => rfl
  | b :: bs => by
    rw [List.map_cons, PyData.plainAll, plain_bls bs]
    rfl
theorem lay_bls : ∀ bs : List Bool, PyData.canLayAll0 (bs.map PyData.bool) = true
  | [] => by simp [PyData.canLayAll0]
  | b :: bs => by
    rw [List.map_cons, PyData.canLayAll0, lay_bls bs]
    simp [PyData.canLay0]
theorem fits_bls {bs : List Bool} : ∀ x ∈ bs.map PyData.bool, x.fits63 := fun x hx => by
  obtain ⟨b, _, rfl⟩ := List.mem_map.mp hx
  simp [PyData.fits63]
theorem truthy_bls (bs : List Bool) : (bs.map PyData.bool).all PyData.truthy = bs.all id ∧ (bs.map PyData.bool).any PyData.truthy = bs.any id := by
  rw [List.all_map, List.any_map]
  exact ⟨rfl, rfl⟩
theorem ok_all (hc : X.calm = true) : CallR X (.builtin "all") (pRL X.K (g1 allV)) := by
  intro pins s σ H xs us Q I rv h
  obtain ⟨ps, F, r, sf, hp, e, k⟩ := h
  obtain ⟨p, rfl, e1⟩ := g1_of e
  clear e; have e := e1; clear e1
  obtain ⟨v, rfl, hv⟩ := hp.one
  obtain ⟨l, e1, e9⟩ := Option.bind_eq_some_iff.mp e
  clear e; have e := e9; clear e9
  obtain ⟨bs, e2, rfl⟩ := Option.map_eq_some_iff.mp e
  have el := blsOf_map e2
  subst el
  obtain ⟨u, rfl, ru⟩ := vals1 rv
  obtain ⟨a, xs, its, rfl, ra, rx, hz, hh⟩ := seq_heap I sf hv e1 ru
  have kb : Q (.bl (bs.all id)) H := k _ _ _ (.refl sf) frB
  obtain ⟨as, ras⟩ := readsAll_of I sf ra rx (by rw [toDs_bls]; exact lay_bls bs)
  rw [toDs_bls] at ras
  rcases hh with hh | hh
  · exact PySem.W.all_list_data (I.ok.hd hc) hh (show ReadsAll s.heap its.toArray.toList _ as from ras) (plain_bls bs) fits_bls fun h' tk hk => ⟨.bl _, H, I.kept hk, rfl, by rw [(truthy_bls bs).1]; exact kb⟩
  · exact PySem.W.all_tuple_data (I.ok.hd hc) hh (show ReadsAll s.heap its.toArray.toList _ as from ras) (plain_bls bs) fits_bls fun h' tk hk => ⟨.bl _, H, I.kept hk, rfl, by rw [(truthy_bls bs).1]; exact kb⟩
theorem ok_any (hc : X.calm = true) : CallR X (.builtin "any") (pRL X.K (g1 anyV)) := by
  intro pins s σ H xs us Q I rv h
  obtain ⟨ps, F, r, sf, hp, e, k⟩ := h
  obtain ⟨p, rfl, e1⟩ := g1_of e
  clear e; have e := e1; clear e1
  obtain ⟨v, rfl, hv⟩ := hp.one
  obtain ⟨l, e1, e9⟩ := Option.bind_eq_some_iff.mp e
  clear e; have e := e9; clear e9
  obtain ⟨bs, e2, rfl⟩ := Option.map_eq_some_iff.mp e
  have el := blsOf_map e2
  subst el
  obtain ⟨u, rfl, ru⟩ := vals1 rv
  obtain ⟨a, xs, its, rfl, ra, rx, hz, hh⟩ := seq_heap I sf hv e1 ru
  have kb : Q (.bl (bs.any id)) H := k _ _ _ (.refl sf) frB
  obtain ⟨as, ras⟩ := readsAll_of I sf ra rx (by rw [toDs_bls]; exact lay_bls bs)
  rw [toDs_bls] at ras
  rcases hh with hh | hh
  · exact PySem.W.any_list_data (I.ok.hd hc) hh (show ReadsAll s.heap its.toArray.toList _ as from ras) (plain_bls bs) fits_bls fun h' tk hk => ⟨.bl _, H, I.kept hk, rfl, by rw [(truthy_bls bs).2]; exact kb⟩
  · exact PySem.W.any_tuple_data (I.ok.hd hc) hh (show ReadsAll s.heap its.toArray.toList _ as from ras) (plain_bls bs) fits_bls fun h' tk hk => ⟨.bl _, H, I.kept hk, rfl, by rw [(truthy_bls bs).2]; exact kb⟩
end
end Pi

/-! Pi 4b: sorting tuples among which some may be empty. -/
namespace PySem.SeqAt
open PySem PySem.Spec PyProof.Rows
variable {A : Around} {s : Shared}
theorem tuple_lt_call {prog : Program} {w : World} {E : Value → Shared → Prop} {Q : Value → Shared → Prop} {l b : Addr} {items items2 : Array Value} {e r : Nat → Bool} (hl : s.heap.IsTuple l items) (hb : s.heap.IsTuple b items2)
    (he : ∀ j (h1 : j < items.size) (h2 : j < items2.size), EqAt A.in1 s items[j] items2[j] (e j)) (hr : ∀ j (h1 : j < items.size) (h2 : j < items2.size), e j = false → RcLt A.in1 s items[j] items2[j] (r j))
    (h : Q (.bool (firstLt e r (decide (items.size < items2.size)) (List.range (min items.size items2.size)))) s) : wpAny (model prog w) A (call (.builtin "tuple.__lt__") [.ref l, .ref b]) Q E s := by
  obtain ⟨⟨cls, dd, data, sl⟩, ho, hc, n, hd⟩ := id hl
  obtain ⟨⟨cls2, dd2, data2, sl2⟩, ho2, hc2, n2, hd2⟩ := id hb
  simp only at hc hd hc2 hd2
  subst hc hd hc2 hd2
  exact call_meets F.slot_tuple_lt ⟨_, ho, rfl⟩ F.entry_tuple_lt (F.args_tuple_lt_2 _ _) (tuple_ltAt l b items items2 n n2 dd dd2 sl sl2 e r) ⟨ho, ho2, he, hr, h⟩
end PySem.SeqAt
namespace PySem.W
open PySem PySem.Calls PySem.SeqAt PyProof.Rows
section
variable {prog : Program} {w : World} {A : Around} {E : Value → Shared → Prop} {s : Shared}
theorem oneLt_tups {xs ys : List PyData} {a b : Value} {as bs : List Addr} {Q : Bool → Shared → Prop} (ra : Reads s.heap a (.tuple xs) as) (rb : Reads s.heap b (.tuple ys) bs) (h : alike (.tuple xs) (.tuple ys) = true)
    (hu : A.units + min (PyData.tuple xs).depth (PyData.tuple ys).depth < cLine) (hq : Q (dataLt (.tuple xs) (.tuple ys)) s) : wpAny (model prog w) A (oneLt' true a b) Q E s := by
  have hal : alikeAll xs ys = true := by simpa [alike] using h
  cases ra with
  | @tuple l o vs n _ as₁ h1 h2 h3 h4 =>
    cases rb with
    | @tuple l' o' vs' n' _ bs₁ k1 k2 k3 k4 =>
      have n1 : vs.size = xs.length := by simpa using ReadsAll.length _ _ _ h4
      have n2 : vs'.size = ys.length := by simpa using ReadsAll.length _ _ _ k4
      rw [dataLt_tuple, ← firstLt_toks xs ys hal, ← n1, ← n2] at hq
      rw [oneLt'_eq]
      simp only [if_true]
      refine wpAny_bind (wpAny_cRoomFor (room_here hu) ?_)
      refine wpAny_bind (wpAny_callSpecialIfBound?_slot (T := "tuple") ⟨_, h1, h2⟩ F.slot_tuple_lt (tuple_lt_call (e := pairEq xs ys) (r := fun j => dataLt (xs.getD j .none) (ys.getD j .none)) ⟨_, h1, h2, _, h3⟩ ⟨_, k1, k2, _, k3⟩ (fun j j1 j2 => ?_) (fun j j1 j2 hj => ?_) ?_))
      · have := eqAt_alikeAll xs ys A.in1 s vs.toList vs'.toList _ _ h4 k4 hal (room_in hu) j (by simpa using j1) (by simpa using j2)
        simpa using this
      · have := rcLt_alikeAll xs ys A.in1 s vs.toList vs'.toList _ _ h4 k4 hal (room_in hu) j (by simpa using j1) (by simpa using j2) hj
        simpa using this
      · exact wpAny_truthy_bool hq
theorem keyLt_general (x y : Value) : keyLt' general' x y = oneLt' false x y := rfl
/-- the first items of tuples, where there are any -/
theorem firsts_tups : ∀ (vs : List Value) (ds : List PyData) {Q : List (Option Value) → Shared → Prop}, EachIs (fun v d => ∃ as, Reads s.heap v d as) vs ds → (∀ d, d ∈ ds → ∃ xs, d = .tuple xs) →
    (∀ fs : List (Option Value), fs.length = vs.length → (∀ (i : Nat) (d : PyData), ds[i]? = some d → (fs[i]? = some none ↔ d = PyData.tuple [])) → Q fs s) → wpAny (model prog w) A (vs.mapM firstOfTuple') Q E s
  | _, _, Q, .nil, _, h => by
    rw [List.mapM_nil]
    exact wpAny_pure (h [] rfl fun i d e => by simp at e)
  | v :: vs, d :: ds, Q, .cons ⟨as, r⟩ t, ht, h => by
    obtain ⟨xs, rfl⟩ := ht d List.mem_cons_self
    rw [List.mapM_cons]
    refine wpAny_bind ?_
    rw [kas_first_eq]
    cases r with
    | @tuple a o ys n _ _ ho hc hd hr =>
      refine wpAny_bind (Looks.here (show Looks (model prog w) s.heap (typeOf (.ref a)) o.cls from (Looks.ld ho).andThen .now) ?_)
      rw [hc, if_neg (by first | decide | simp)]
      refine wpAny_bind (listItems_at ho hd (wpAny_pure ?_))
      refine wpAny_bind (firsts_tups vs ds t (fun d hd => ht d (List.mem_cons_of_mem _ hd)) fun fs hl hf => wpAny_pure ?_)
      have hlen : ys.size = xs.length := by simpa using ReadsAll.length _ _ _ hr
      refine h _ (by rw [List.length_cons, List.length_cons, hl]) fun i d e => ?_
      cases i with
      | zero =>
        rw [List.getElem?_cons_zero] at e ⊢
        cases e
        constructor
        · intro z
          have z2 : ys[0]? = none := Option.some.inj z
          have : ys.size = 0 := by
            have := Array.getElem?_eq_none_iff.mp z2
            omega
          rw [show xs = [] from List.length_eq_zero_iff.mp (by omega)]
        · intro z
          cases z
          rw [Array.getElem?_eq_none (by rw [hlen]; simp)]
      | succ i =>
        rw [List.getElem?_cons_succ] at e ⊢
        exact hf i d e
theorem types_tups : ∀ (vs : List Value) (ds : List PyData) {Q : List Value → Shared → Prop}, EachIs (fun v d => ∃ as, Reads s.heap v d as) vs ds → (∀ d, d ∈ ds → ∃ xs, d = .tuple xs) → Q (vs.map fun _ => .type "tuple") s → wpAny (model prog w) A (vs.mapM typeOf) Q E s
  | _, _, Q, .nil, _, h => by
    rw [List.mapM_nil]
    exact wpAny_pure h
  | v :: vs, d :: ds, Q, .cons ⟨as, r⟩ t, ht, h => by
    obtain ⟨xs, rfl⟩ := ht d List.mem_cons_self
    rw [List.mapM_cons]
    refine wpAny_bind ((looks_reads r).here ?_)
    exact wpAny_bind (types_tups vs ds t (fun d hd => ht d (List.mem_cons_of_mem _ hd)) (wpAny_pure h))
/-- tuples that read as alike data can be sorted -/
theorem SortsAt.tups {vs : List Value} {ds : List PyData} (e : EachIs (fun v d => ∃ as, Reads s.heap v d as) vs ds) (hal : AllAlike ds) (ht : ∀ d, d ∈ ds → ∃ xs, d = .tuple xs) (hu : ∀ d, d ∈ ds → A.units + d.depth < cLine) : SortsAt prog w A s (dataKind s.heap ds) vs := by
  by_cases hne : ∀ d, d ∈ ds → ∃ x r, d = .tuple (x :: r)
  · exact SortsAt.data e hal (.inl hne) hu
  have room : ∀ {d d' : PyData}, d ∈ ds → A.units + min d.depth d'.depth < cLine := fun {d d'} hd => Nat.lt_of_le_of_lt (Nat.add_le_add_left (Nat.min_le_left _ _) _) (hu d hd)
  have lt1 : H.LtAt prog w A s (dataKind s.heap ds) oneType' := fun E x y a b Q ha hb hq => by
    obtain ⟨d, as, hd, ra, rfl⟩ := dataKind_inv ha
    obtain ⟨d', as', hd', rb, rfl⟩ := dataKind_inv hb
    have hr := room (d' := d') hd
    have hdd := hal d hd d' hd'
    obtain ⟨x1, rfl⟩ := ht d hd
    obtain ⟨x2, rfl⟩ := ht d' hd'
    rw [keyLt'_oneType]
    exact oneLt_tups ra rb hdd hr hq
  have lt2 : H.LtAt prog w A s (dataKind s.heap ds) general' := fun E x y a b Q ha hb hq => by
    obtain ⟨d, as, hd, ra, rfl⟩ := dataKind_inv ha
    obtain ⟨d', as', hd', rb, rfl⟩ := dataKind_inv hb
    have hr := room (d' := d') hd
    have hdd := hal d hd d' hd'
    obtain ⟨x1, rfl⟩ := ht d hd
    rw [keyLt_general]
    exact oneLt_alike (fun z => by cases z) ra rb hdd (fun z => by cases z) hr hq
  have hex : ∃ i : Nat, ds[i]? = some (PyData.tuple []) := by
    refine Classical.byContradiction fun z => hne fun d hd => ?_
    obtain ⟨xs, rfl⟩ := ht d hd
    cases xs with
    | nil =>
      obtain ⟨i, hi, ei⟩ := List.getElem_of_mem hd
      exact absurd ⟨i, by rw [List.getElem?_eq_getElem hi, ei]⟩ z
    | cons x r => exact ⟨x, r, rfl⟩
  have keys : ∀ v, v ∈ vs → ∃ a, (dataKind s.heap ds).keyOf v = some a := fun v hv => by
    obtain ⟨d, hd, as, r⟩ := e.left v hv
    exact ⟨_, dataKind_some hal hd r⟩
  have not_all : ∀ fs : List (Option Value), (∀ (i : Nat) (d : PyData), ds[i]? = some d → (fs[i]? = some none ↔ d = PyData.tuple [])) → ¬((fs.toArray.all fun x => x.isSome) = true) := fun fs hf z => by
    obtain ⟨i, hi⟩ := hex
    have := (hf i _ hi).mpr rfl
    rw [List.all_toArray, List.all_eq_true] at z
    have := z none (List.mem_of_getElem? this)
    cases this
  by_cases h0 : ds[0]? = some (PyData.tuple [])
  · refine ⟨keys, oneType', lt1, fun h2 E Q hq => ?_⟩
    rw [kat_kind_eq, List.mapM_toArray, map_eq_pure_bind]
    refine wpAny_bind (wpAny_bind (firsts_tups vs ds e ht fun fs hl hf => wpAny_pure ?_))
    rw [if_neg (not_all fs hf)]
    have hz : ¬((fs.toArray[0]?.bind id).isSome = true) := by
      rw [List.getElem?_toArray, (hf 0 _ h0).mpr rfl]
      simp
    rw [if_neg hz, oneTypeOnly'_eq, List.mapM_toArray, map_eq_pure_bind]
    refine wpAny_bind (wpAny_bind (wpAny_bind (types_tups vs ds e ht (wpAny_pure ?_))))
    obtain ⟨v1, v2, vr, rfl⟩ : ∃ v1 v2 vr, vs = v1 :: v2 :: vr := by
      match vs, h2 with
      | [], h2 => simp at h2
      | [_], h2 => simp at h2
      | v1 :: v2 :: vr, _ => exact ⟨v1, v2, vr, rfl⟩
    have et : ((v1 :: v2 :: vr).map fun _ => Value.type "tuple").toArray[0]? = some (.type "tuple") := rfl
    rw [et]
    have ea : (((v1 :: v2 :: vr).map fun _ => Value.type "tuple").toArray.all fun x => x == Value.type "tuple") = true := by
      rw [List.all_toArray, List.all_eq_true]
      intro x hx
      obtain ⟨_, _, rfl⟩ := List.mem_map.mp hx
      exact beq_self_eq_true _
    dsimp only
    rw [if_pos ea]
    exact wpAny_pure (wpAny_pure hq)
  · refine ⟨keys, general', lt2, fun h2 E Q hq => ?_⟩
    rw [kat_kind_eq, List.mapM_toArray, map_eq_pure_bind]
    refine wpAny_bind (wpAny_bind (firsts_tups vs ds e ht fun fs hl hf => wpAny_pure ?_))
    rw [if_neg (not_all fs hf)]
    have hd0 : ∃ d, ds[0]? = some d := by
      have hle : vs.length = ds.length := e.length
      exact ⟨ds[0]'(by omega), List.getElem?_eq_getElem _⟩
    obtain ⟨d0, hd0⟩ := hd0
    have hz : (fs.toArray[0]?.bind id).isSome = true := by
      rw [List.getElem?_toArray]
      have q := hf 0 d0 hd0
      have hn : ¬(fs[0]? = some none) := fun z => h0 (by rw [hd0, q.mp z])
      have hlt : 0 < fs.length := by omega
      rw [List.getElem?_eq_getElem hlt] at hn ⊢
      cases eq : fs[0] with
      | none => exact absurd (by rw [eq]) hn
      | some v => rfl
    rw [if_pos hz]
    exact wpAny_pure hq
/-- what may be sorted: tuples all, or none of them a tuple or None -/
def Sort2 (ds : List PyData) : Prop := (∀ d, d ∈ ds → ∃ xs, d = .tuple xs) ∨ ∀ d, d ∈ ds → d ≠ .none ∧ ∀ xs, d ≠ .tuple xs
theorem SortsAt.two {vs : List Value} {ds : List PyData} (e : EachIs (fun v d => ∃ as, Reads s.heap v d as) vs ds) (hal : AllAlike ds) (hk : Sort2 ds) (hu : ∀ d, d ∈ ds → A.units + d.depth < cLine) : SortsAt prog w A s (dataKind s.heap ds) vs := by
  rcases hk with h | h
  · exact SortsAt.tups e hal h hu
  · exact SortsAt.data e hal (.inr h) hu
variable {β : Type} {R : Value → β → Prop} {enc : β → PyData} {vs : List Value} {bs : List β}
theorem sorted_two {l : Addr} {Q : Value → Shared → Prop} (hl : s.heap.IsList l vs.toArray ∨ s.heap.IsTuple l vs.toArray) (e : EachIs R vs bs) (er : EachIs (fun v b => ∃ as, Reads s.heap v (enc b) as) vs bs) (hal : AllAlike (bs.map enc)) (hk : Sort2 (bs.map enc)) (hL : bs.length ≤ sizeLine)
    (hu : ∀ b, b ∈ bs → A.units + 2 + (enc b).depth < cLine) (h : ∀ out, out.length = bs.length → EachIs R out (bs.mergeSort (dataLe false enc)) → Q (.ref (s.heap.objs.size + 1)) { s with heap := sortedAll s.heap vs (List.toArray out) }) :
    wpAny (model prog w) A (call (.builtin "sorted") [.ref l]) Q E s := by
  have er' : EachIs (fun v b => ∃ as, Reads (sortingHeap (copyHeap s.heap vs) (s.heap.objs.size + 1) vs) v (enc b) as) vs bs := er.mono fun _ _ ⟨as, r⟩ => ⟨as, PyProof.Rows.Reads.keeps (fun _ _ => sorting_copy_old) r⟩
  have hL' : vs.length ≤ sizeLine := by rw [e.length]; exact hL
  have body : ∀ E' : Value → Shared → Prop, wpAny (model prog w) A.in1.in1 (Builtin.«list.sort» ⟨[.ref (s.heap.objs.size + 1)], []⟩) (fun f s' => f = .done (.ret .none) ∧ Q (.ref (s.heap.objs.size + 1)) s') E' { s with heap := copyHeap s.heap vs } := fun _ =>
    list_sort_vals (s := { s with heap := copyHeap s.heap vs }) (copyHeap_at s.heap vs)
      (SortsAt.two (s := { s with heap := sortingHeap (copyHeap s.heap vs) (s.heap.objs.size + 1) vs }) (each_map (R := fun v d => ∃ as, Reads (sortingHeap (copyHeap s.heap vs) (s.heap.objs.size + 1) vs) v d as) enc er') hal hk (bound_map hu)) hL'
      ⟨rfl, h _ (by rw [sortVals_length false rfl]; exact e.length) (sortVals_data false e er' hal)⟩
  rcases hl with hl | hl
  · exact sorted_of_sort hl hL' (args_sorted1 _) (fun _ => args_list_sort _) body
  · exact sorted_of_sortT hl hL' (args_sorted1 _) (fun _ => args_list_sort _) body
end
end PySem.W

/-! Pi 5: sorted, min, max, isinstance, index. -/
namespace Pi
open PySem PySem.Spec PyProof.Rows L2
section
variable {K : PySem.W.Frag} {F F' H H' : Hp} {X : Cx}

/-! ### data determines the value -/
mutual
theorem toD_inj : ∀ {p q : PV}, p.toD.canLay0 = true → p.toD = q.toD → p = q
  | .non, q, _, e => by cases q <;> first | rfl | (simp [PV.toD] at e)
  | .bl b, q, _, e => by cases q <;> first | (simp [PV.toD] at e; rw [e]; done) | (simp [PV.toD] at e)
  | .int b, q, _, e => by cases q <;> first | (simp [PV.toD] at e; rw [e]; done) | (simp [PV.toD] at e)
  | .str b, q, _, e => by cases q <;> first | (simp [PV.toD] at e; rw [e]; done) | (simp [PV.toD] at e)
  | .tup l, q, c, e => by
    cases q <;> first | (simp [PV.toD] at e; done) | skip
    rename_i m
    simp only [PV.toD, PyData.tuple.injEq] at e
    rw [toDs_inj (by simpa [PV.toD, PyData.canLay0] using c) e]
  | .lst l, q, c, e => by
    cases q <;> first | (simp [PV.toD] at e; done) | skip
    rename_i m
    simp only [PV.toD, PyData.list.injEq] at e
    rw [toDs_inj (by simpa [PV.toD, PyData.canLay0] using c) e]
  | .dic _, _, c, _ => by simp [PV.toD, PyData.canLay0] at c
  | .scr _, _, c, _ => by simp [PV.toD, PyData.canLay0] at c
theorem toDs_inj : ∀ {l m : List PV}, PyData.canLayAll0 (toDs l) = true → toDs l = toDs m → l = m
  | [], m, _, e => by cases m <;> first | rfl | (simp [toDs] at e)
  | p :: l, m, c, e => by
    cases m with
    | nil => simp [toDs] at e
    | cons q m =>
      simp only [toDs, List.cons.injEq] at e
      simp only [toDs, PyData.canLayAll0, Bool.and_eq_true] at c
      rw [toD_inj c.1 e.1, toDs_inj c.2 e.2]
end

/-! ### sorted -/
def isTup1 : PV → Bool
  | .tup _ => true
  | _ => false
def noTup : PV → Bool
  | .tup _ => false
  | .non => false
  | _ => true
def sortOk (l : List PV) : Bool := PyData.canLayAll0 (toDs l) && decide (PyData.depthAll (toDs l) ≤ 64) && (l.all fun a => l.all fun b => PySem.W.alike a.toD b.toD) && (l.all isTup1 || l.all noTup)
def sortP (l : List PV) : List PV := l.mergeSort (PySem.W.dataLe false PV.toD)
def sortedV (p : PV) : Option PV := (seqOf p).bind fun l => if sortOk l then some (.lst (sortP l)) else none
theorem each_of {R : Value → PV → Prop} : ∀ {l : List PV} {xs : List V} {its : List Value}, Reps K F l xs → Vals xs its → (∀ p x u, Rep K F p x → RelV x u → R u p) → PySem.W.EachIs R its l
  | _, _, _, .nil, .nil, _ => .nil
  | _, _, _, .cons r t, .cons q u, h => .cons (h _ _ _ r q) (each_of t u h)
theorem each_back : ∀ {l : List PV} {its : List Value}, PySem.W.EachIs (fun u p => ∃ x, RelV x u ∧ Rep K F p x) its l → ∃ xs, Vals xs its ∧ Reps K F l xs
  | _, _, .nil => ⟨[], .nil, .nil⟩
  | _, _, .cons ⟨x, r, q⟩ t => by
    obtain ⟨xs, h1, h2⟩ := each_back t
    exact ⟨x :: xs, .cons r h1, .cons q h2⟩
theorem lay_mem : ∀ {l : List PV} {p : PV}, PyData.canLayAll0 (toDs l) = true → p ∈ l → p.toD.canLay0 = true
  | q :: l, p, c, h => by
    simp only [toDs, PyData.canLayAll0, Bool.and_eq_true] at c
    rcases List.mem_cons.mp h with rfl | h
    · exact c.1
    · exact lay_mem c.2 h
theorem depth_mem : ∀ {l : List PV} {p : PV}, p ∈ l → p.toD.depth ≤ PyData.depthAll (toDs l)
  | q :: l, p, h => by
    rw [toDs, PyData.depthAll]
    rcases List.mem_cons.mp h with rfl | h
    · omega
    · have := depth_mem h
      omega
theorem each_reads {pins : List (Addr × Obj)} {s : Shared} {σ : L2.St} {F H : Hp} (I : Inv X pins σ H s) (sf : Same F H) : ∀ {l : List PV} {xs : List V} {its : List Value}, (∀ p ∈ l, p.toD.canLay0 = true) → Reps X.K F l xs → Vals xs its → PySem.W.EachIs (fun v b => ∃ as, Reads s.heap v (PV.toD b) as) its l
  | _, _, _, _, .nil, .nil => .nil
  | _, _, _, hm, .cons r t, .cons q u => .cons (Dp.reads I _ _ _ (r.dp sf (hm _ List.mem_cons_self)) q) (each_reads I sf (fun p hp => hm p (List.mem_cons_of_mem _ hp)) t u)
theorem ok_sorted (hu : X.A.units + 70 < cLine) : CallR X (.builtin "sorted") (pRL X.K (g1 sortedV)) := by
  intro pins s σ H xs us Q I rv h
  obtain ⟨ps, F, r, sf, hp, e, k⟩ := h
  obtain ⟨p, rfl, e1⟩ := g1_of e
  clear e
  obtain ⟨v, rfl, hv⟩ := hp.one
  obtain ⟨l, e2, e3⟩ := Option.bind_eq_some_iff.mp e1
  clear e1
  split at e3
  · rename_i c
    cases e3
    simp only [sortOk, Bool.and_eq_true, Bool.or_eq_true, List.all_eq_true, decide_eq_true_eq] at c
    obtain ⟨⟨⟨c1, c2⟩, c3⟩, c4⟩ := c
    obtain ⟨u, rfl, ru⟩ := vals1 rv
    obtain ⟨a, xs, its, rfl, ra, rx, hz, hh⟩ := seq_heap I sf hv e2 ru
    have hal : PySem.W.AllAlike (l.map PV.toD) := fun d hd d' hd' => by
      obtain ⟨b, hb, rfl⟩ := List.mem_map.mp hd
      obtain ⟨b', hb', rfl⟩ := List.mem_map.mp hd'
      exact c3 b hb b' hb'
    have hk : PySem.W.Sort2 (l.map PV.toD) := by
      rcases c4 with c4 | c4
      · refine .inl fun d hd => ?_
        obtain ⟨b, hb, rfl⟩ := List.mem_map.mp hd
        have q := c4 b hb
        unfold isTup1 at q
        split at q
        · exact ⟨_, by rw [PV.toD]⟩
        · cases q
      · refine .inr fun d hd => ?_
        obtain ⟨b, hb, rfl⟩ := List.mem_map.mp hd
        have q := c4 b hb
        cases b <;> first | (simp [noTup] at q; done) | (constructor <;> simp [PV.toD])
    have e := each_of (R := fun u p => ∃ x, RelV x u ∧ Rep X.K F p x) ra rx fun p x u h1 h2 => ⟨x, h2, h1⟩
    have er : PySem.W.EachIs (fun v b => ∃ as, Reads s.heap v (PV.toD b) as) its l := each_reads I sf (fun p hp => lay_mem c1 hp) ra rx
    have hL : l.length ≤ sizeLine := by rw [ra.length]; exact hz
    have hub : ∀ b, b ∈ l → X.A.units + 2 + (PV.toD b).depth < cLine := fun b hb => by
      have := depth_mem hb
      omega
    have fin : ∀ out, out.length = l.length → PySem.W.EachIs (fun u p => ∃ x, RelV x u ∧ Rep X.K F p x) out (l.mergeSort (PySem.W.dataLe false PV.toD)) →
        EP X pins σ Q (.ref (s.heap.objs.size + 1)) { s with heap := PyProof.Rows.sortedAll s.heap its (List.toArray out) } := fun out ho eo => by
      obtain ⟨zs, z1, z2⟩ := each_back eo
      obtain ⟨ep, he'⟩ := PyProof.Rows.sortedAll_at s.heap its out.toArray
      have hf : H (s.heap.objs.size + 1) = none := I.hok.fresh (Nat.le_succ _)
      exact ⟨.ref _, upd H (s.heap.objs.size + 1) (.lst zs), I.laid (t' := s.toks) (fun _ _ => PyProof.Rows.sortedAll_old) (Nat.le_succ _) ⟨by rw [z1.length, ho]; exact hL, out, ep, z1, he'⟩, rfl,
        k _ _ _ (.new' sf hf) (frL sf hf z2)⟩
    exact PySem.W.sorted_two hh e er hal hk hL hub fin
  · cases e3

/-! ### min, max -/
def minP (x : PV) (l : List PV) : PV := l.foldl (fun a y => if PySem.W.dataLt y.toD a.toD then y else a) x
def maxP (x : PV) (l : List PV) : PV := l.foldl (fun a y => if PySem.W.dataLt a.toD y.toD then y else a) x
theorem minP_toD : ∀ (l : List PV) (x : PV), (minP x l).toD = PySem.W.minD x.toD (toDs l)
  | [], _ => rfl
  | y :: l, x => by
    show (minP (if PySem.W.dataLt y.toD x.toD then y else x) l).toD = PySem.W.minD x.toD (y.toD :: toDs l)
    rw [minP_toD l]
    show _ = PySem.W.minD (if PySem.W.dataLt y.toD x.toD then y.toD else x.toD) (toDs l)
    split <;> rfl
theorem maxP_toD : ∀ (l : List PV) (x : PV), (maxP x l).toD = PySem.W.maxD x.toD (toDs l)
  | [], _ => rfl
  | y :: l, x => by
    show (maxP (if PySem.W.dataLt x.toD y.toD then y else x) l).toD = PySem.W.maxD x.toD (y.toD :: toDs l)
    rw [maxP_toD l]
    show _ = PySem.W.maxD (if PySem.W.dataLt x.toD y.toD then y.toD else x.toD) (toDs l)
    split <;> rfl
def extOk (l : List PV) : Bool := PyData.canLayAll0 (toDs l) && decide (PyData.depthAll (toDs l) ≤ 64) && (l.all fun a => l.all fun b => PySem.W.alike a.toD b.toD) && l.all fun p => match p with | .non => false | _ => true
def minV (p : PV) : Option PV := (seqOf p).bind fun l => if extOk l then (match l with | x :: r => some (minP x r) | [] => none) else none
def maxV (p : PV) : Option PV := (seqOf p).bind fun l => if extOk l then (match l with | x :: r => some (maxP x r) | [] => none) else none
theorem extOk_of {l : List PV} (c : extOk l = true) : PyData.canLayAll0 (toDs l) = true ∧ PyData.depthAll (toDs l) ≤ 64 ∧ PySem.W.AlikeAll (toDs l) := by
  simp only [extOk, Bool.and_eq_true, List.all_eq_true, decide_eq_true_eq] at c
  obtain ⟨⟨⟨c1, c2⟩, c3⟩, c4⟩ := c
  refine ⟨c1, c2, ?_⟩
  rw [toDs_map]
  refine ⟨fun d hd d' hd' => ?_, fun d hd => ?_⟩
  · obtain ⟨b, hb, rfl⟩ := List.mem_map.mp hd
    obtain ⟨b', hb', rfl⟩ := List.mem_map.mp hd'
    exact c3 b hb b' hb'
  · obtain ⟨b, hb, rfl⟩ := List.mem_map.mp hd
    have q := c4 b hb
    cases b <;> first | (cases q; done) | (simp [PV.toD])
/-- the chosen item -/
theorem ext_item {pins : List (Addr × Obj)} {s : Shared} {σ : L2.St} {F H : Hp} (I : Inv X pins σ H s) (sf : Same F H) {l : List PV} {xs : List V} {its : List Value} (ra : Reps X.K F l xs) (rx : Vals xs its) (c : PyData.canLayAll0 (toDs l) = true)
    {i : Nat} {v : Value} {h' : Heap} {r : PV} {bs : List Addr} (hv : its.toArray[i]? = some v) (hr : Reads h' v r.toD bs) (hk : ∀ b o, s.heap.get? b = some o → h'.get? b = some o) : ∃ x, RelV x v ∧ Rep X.K F r x := by
  have hv' : its[i]? = some v := by simpa using hv
  have hi : i < its.length := (List.getElem?_eq_some_iff.mp hv').1
  have hx : i < xs.length := by rw [rx.length]; exact hi
  obtain ⟨u, hu, ru⟩ := rx.get (List.getElem?_eq_getElem hx)
  rw [hv'] at hu
  cases hu
  obtain ⟨p, hp, rp⟩ := ra.get' (List.getElem?_eq_getElem hx)
  have cp := lay_mem c (List.mem_of_getElem? hp)
  obtain ⟨as, h1⟩ := Dp.reads I _ _ v (rp.dp sf cp) ru
  have e := SeqAt.Reads.unique _ _ v _ _ cp (PyProof.Rows.Reads.keeps hk h1) hr
  rw [← toD_inj cp e]
  exact ⟨_, ru, rp⟩
theorem ok_min1 (hc : X.calm = true) (hu : X.A.units + 70 < cLine) : CallR X (.builtin "min") (fun xs H Q => ∃ p F r v, Same F H ∧ xs = [v] ∧ RelB X.K F H p v ∧ minV p = some r ∧ ∀ v H' F', Stp F H F' H' → Rep X.K F' r v → Q v H') := by
  intro pins s σ H xs us Q I rv h
  obtain ⟨p, F, r, v, sf, rfl, hv, e1, k⟩ := h
  obtain ⟨l, e2, e3⟩ := Option.bind_eq_some_iff.mp e1
  clear e1
  split at e3
  · rename_i c
    obtain ⟨c1, c2, c3⟩ := extOk_of c
    obtain ⟨u, rfl, ru⟩ := vals1 rv
    obtain ⟨a, xs, its, rfl, ra, rx, hz, hh⟩ := seq_heap I sf hv e2 ru
    obtain ⟨as, ras⟩ := readsAll_of I sf ra rx c1
    cases l with
    | nil => cases e3
    | cons y l =>
      cases e3
      have hub : X.A.units + 1 + PyData.depthAll (toDs (y :: l)) < cLine := by omega
      have fin : ∀ (i : Nat) v h' tk bs, its.toArray[i]? = some v → Reads h' v (PySem.W.minD y.toD (toDs l)) bs → (∀ b o, s.heap.get? b = some o → h'.get? b = some o) → EP X pins σ Q v { s with heap := h', toks := tk } := fun i v h' tk bs h1 h2 h3 => by
        rw [← minP_toD] at h2
        obtain ⟨x, q1, q2⟩ := ext_item I sf ra rx c1 h1 h2 h3
        exact ⟨x, H, I.kept h3, q1, k _ _ _ (.refl sf) q2⟩
      rcases hh with hh | hh
      · exact PySem.W.min_list_data (I.ok.hd hc) hh (show ReadsAll s.heap its.toArray.toList _ as from ras) c3 hub fin
      · exact PySem.W.min_tuple_data (I.ok.hd hc) hh (show ReadsAll s.heap its.toArray.toList _ as from ras) c3 hub fin
  · cases e3
theorem ok_max1 (hc : X.calm = true) (hu : X.A.units + 70 < cLine) : CallR X (.builtin "max") (fun xs H Q => ∃ p F r v, Same F H ∧ xs = [v] ∧ RelB X.K F H p v ∧ maxV p = some r ∧ ∀ v H' F', Stp F H F' H' → Rep X.K F' r v → Q v H') := by
  intro pins s σ H xs us Q I rv h
  obtain ⟨p, F, r, v, sf, rfl, hv, e1, k⟩ := h
  obtain ⟨l, e2, e3⟩ := Option.bind_eq_some_iff.mp e1
  clear e1
  split at e3
  · rename_i c
    obtain ⟨c1, c2, c3⟩ := extOk_of c
    obtain ⟨u, rfl, ru⟩ := vals1 rv
    obtain ⟨a, xs, its, rfl, ra, rx, hz, hh⟩ := seq_heap I sf hv e2 ru
    obtain ⟨as, ras⟩ := readsAll_of I sf ra rx c1
    cases l with
    | nil => cases e3
    | cons y l =>
      cases e3
      have hub : X.A.units + 1 + PyData.depthAll (toDs (y :: l)) < cLine := by omega
      have fin : ∀ (i : Nat) v h' tk bs, its.toArray[i]? = some v → Reads h' v (PySem.W.maxD y.toD (toDs l)) bs → (∀ b o, s.heap.get? b = some o → h'.get? b = some o) → EP X pins σ Q v { s with heap := h', toks := tk } := fun i v h' tk bs h1 h2 h3 => by
        rw [← maxP_toD] at h2
        obtain ⟨x, q1, q2⟩ := ext_item I sf ra rx c1 h1 h2 h3
        exact ⟨x, H, I.kept h3, q1, k _ _ _ (.refl sf) q2⟩
      rcases hh with hh | hh
      · exact PySem.W.max_list_data (I.ok.hd hc) hh (show ReadsAll s.heap its.toArray.toList _ as from ras) c3 hub fin
      · exact PySem.W.max_tuple_data (I.ok.hd hc) hh (show ReadsAll s.heap its.toArray.toList _ as from ras) c3 hub fin
  · cases e3
def max2V : List PV → Option PV
  | [.int i, .int j] => some (.int (if j > i then j else i))
  | _ => none
def min2V : List PV → Option PV
  | [.int i, .int j] => some (.int (if j < i then j else i))
  | _ => none
/-- max and min, of one or of two things: values come out -/
def maxL : List PV → Option PV
  | [p] => maxV p
  | ps => max2V ps
def minL : List PV → Option PV
  | [p] => minV p
  | ps => min2V ps
def pRLv (K : PySem.W.Frag) (g : List PV → Option PV) : List V → Hp → VK → Prop := fun xs H Q => ∃ ps F r, Same F H ∧ RelBs K F H ps xs ∧ g ps = some r ∧ ∀ v H' F', Stp F H F' H' → Rep K F' r v → Q v H'
theorem ok_max (hc : X.calm = true) (hu : X.A.units + 70 < cLine) : CallR X (.builtin "max") (pRLv X.K maxL) := by
  intro pins s σ H xs us Q I rv h
  obtain ⟨ps, F, r, sf, hp, e, k⟩ := h
  unfold maxL at e
  split at e
  · obtain ⟨v, rfl, hv⟩ := hp.one
    exact ok_max1 hc hu pins s σ H _ us Q I rv ⟨_, F, r, v, sf, rfl, hv, e, k⟩
  · unfold max2V at e
    split at e
    · cases e
      obtain ⟨v, u, rfl, h1, h2⟩ := hp.two
      cases h1.int; cases h2.int
      exact call_max2 hc pins s σ H _ us Q I rv ⟨_, _, rfl, k _ _ _ (.refl sf) (.int _)⟩
    · cases e
theorem ok_min (hc : X.calm = true) (hu : X.A.units + 70 < cLine) : CallR X (.builtin "min") (pRLv X.K minL) := by
  intro pins s σ H xs us Q I rv h
  obtain ⟨ps, F, r, sf, hp, e, k⟩ := h
  unfold minL at e
  split at e
  · obtain ⟨v, rfl, hv⟩ := hp.one
    exact ok_min1 hc hu pins s σ H _ us Q I rv ⟨_, F, r, v, sf, rfl, hv, e, k⟩
  · unfold min2V at e
    split at e
    · cases e
      obtain ⟨v, u, rfl, h1, h2⟩ := hp.two
      cases h1.int; cases h2.int
      exact call_min2 hc pins s σ H _ us Q I rv ⟨_, _, rfl, k _ _ _ (.refl sf) (.int _)⟩
    · cases e

/-! ### isinstance -/
def tyName : PV → String
  | .non => "NoneType"
  | .bl _ => "bool"
  | .int _ => "int"
  | .str _ => "str"
  | .tup _ => "tuple"
  | .lst _ => "list"
  | .dic _ => "dict"
  | .scr _ => "list"
inductive Ty where
  | int | bool | str | tuple | list | dict
  deriving DecidableEq
def Ty.nm : Ty → String
  | .int => "int"
  | .bool => "bool"
  | .str => "str"
  | .tuple => "tuple"
  | .list => "list"
  | .dict => "dict"
def isiV : Ty → PV → Bool
  | .int, .int _ => true
  | .int, .bl _ => true
  | .bool, .bl _ => true
  | .str, .str _ => true
  | .tuple, .tup _ => true
  | .list, .lst _ => true
  | .list, .scr _ => true
  | .dict, .dic _ => true
  | _, _ => false
theorem kit_isi (K : PySem.W.Frag) (t : Ty) (p : PV) : PySem.W.kitOne K (.type (tyName p)) (.type t.nm) = some (isiV t p) := by
  refine kit_ty ?_
  cases t <;> cases p <;> (first | decide +kernel | (show kitB _ _ = some _; simp only [tyName, Ty.nm, isiV]; decide +kernel))
theorem RelB.ty {p : PV} {x : V} (s : Same F H) (h : RelB K F H p x) : TyX K H x (.type (tyName p)) := by
  cases p with
  | non => cases h.non; exact .base .non
  | bl b => cases h.bl; exact .base (.bl b)
  | int i => cases h.int; exact .base (.int i)
  | str i => cases h.str; exact .base (.str i)
  | tup l =>
    obtain ⟨a, xs, rfl, ha, ra⟩ := h.tup s
    exact .base (.tup ha)
  | lst l =>
    obtain ⟨a, xs, rfl, ha, ra⟩ := h.lst s
    exact .base (.lst ha)
  | scr l =>
    obtain ⟨a, xs, rfl, ha, ra⟩ := h.scr s
    rcases ha with (ha | ⟨o, ha⟩) | ⟨o, its, n, hk, hc, _⟩
    · exact .base (.lst ha)
    · exact .base (.frz ha)
    · exact .kList hk hc
  | dic kvs =>
    obtain ⟨a, rfl, es, ha, ra⟩ := h.dic s
    exact .base (.dT ha)
theorem ok_isi (t : Ty) : CallR X (.builtin "isinstance") (fun xs H Q => ∃ p F v, Same F H ∧ RelB X.K F H p v ∧ xs = [v, .ty t.nm] ∧ Q (.bl (isiV t p)) H) := by
  intro pins s σ H xs us Q I rv h
  obtain ⟨p, F, v, sf, hp, rfl, q⟩ := h
  exact call_isi pins s σ H _ us Q I rv ⟨v, _, _, _, _, rfl, .ty _, hp.ty sf, kit_isi _ t p, q⟩
end
end Pi

/-! Pi 6: judgements of expressions by pure closures. -/
namespace Pi
open PySem PySem.Spec PyProof.Rows L2

abbrev Cl := En → Option PV
abbrev Ct := En → Option Bool

section
variable (K : PySem.W.Frag)
/-- readings: a value; a value or a fresh thing; a thing to be read; a truth; several -/
def tE (ρ : En) (p : PV) : TE := fun σ H Q => ∃ B F, StR K B ρ σ H F ∧ ∀ v H' F', Stp F H F' H' → Rep K F' p v → Q v H'
def tFr (ρ : En) (p : PV) : TE := fun σ H Q => ∃ B F, StR K B ρ σ H F ∧ ∀ v H' F', Stp F H F' H' → RelFr K H F' H' p v → Q v H'
def tBw (ρ : En) (p : PV) : TE := fun σ H Q => ∃ B F, StR K B ρ σ H F ∧ ∀ v H' F', Stp F H F' H' → RelB K F' H' p v → Q v H'
def tTs (ρ : En) (b : Bool) : TT := fun σ H Q => ∃ B F, StR K B ρ σ H F ∧ ∀ H' F', Stp F H F' H' → Q b H'
def tAs (ρ : En) (ps : List PV) : TA := fun σ H Q => ∃ B F, StR K B ρ σ H F ∧ ∀ vs H' F', Stp F H F' H' → Reps K F' ps vs → Q vs H'
def tAb (ρ : En) (ps : List PV) : TA := fun σ H Q => ∃ B F, StR K B ρ σ H F ∧ ∀ vs H' F', Stp F H F' H' → RelBs K F' H' ps vs → Q vs H'
end
section
variable {X : Cx} {e a b c : Expr} {ρ : En} {p q r : PV} {pos : Pos}
theorem _root_.L2.PE.mono {t t' : TE} (h : PE X e t) (m : ∀ σ H Q, t' σ H Q → t σ H Q) : PE X e t' := ⟨fun pins s σ H Q I hw => h.run pins s σ H Q I (m σ H Q hw)⟩
theorem _root_.L2.PT.mono {t t' : TT} (h : PT X e t) (m : ∀ σ H Q, t' σ H Q → t σ H Q) : PT X e t' := ⟨fun pins s σ H Q I hw => h.run pins s σ H Q I (m σ H Q hw)⟩
theorem _root_.L2.PW.mono {t t' : TT} (h : PW X e t) (m : ∀ σ H Q, t' σ H Q → t σ H Q) : PW X e t' := ⟨fun wh pins s σ H Q I hw => h.run wh pins s σ H Q I (m σ H Q hw)⟩
theorem _root_.L2.PS.mono {st : Stmt} {t t' : TS} (h : PS X st t) (m : ∀ D σ H, t' D σ H → t D σ H) : PS X st t' := ⟨fun pins s σ H D I hw => h.run pins s σ H D I (m D σ H hw)⟩
theorem _root_.L2.PSs.mono {st : List Stmt} {t t' : TS} (h : PSs X st t) (m : ∀ D σ H, t' D σ H → t D σ H) : PSs X st t' := ⟨fun pins s σ H D I hw => h.run pins s σ H D I (m D σ H hw)⟩
theorem _root_.L2.PG.mono {t t' : TG} (h : PG X e t) (m : ∀ v σ H Q, t' v σ H Q → t v σ H Q) : PG X e t' := ⟨fun pins s σ H x v Q I r hw => h.run pins s σ H x v Q I r (m _ _ _ _ hw)⟩
theorem _root_.L2.PI.mono {tg : Expr} {t t' : TI} (h : PI X tg e t) (m : ∀ σ H R, t' σ H R → t σ H R) : PI X tg e t' := ⟨fun pins s σ H R I hw => h.run pins s σ H R I (m _ _ _ hw)⟩

theorem _root_.L2.PE.val (h : PE X e (tFr X.K ρ p)) : PE X e (tE X.K ρ p) := h.mono fun σ H Q ⟨B, F, st, k⟩ => ⟨B, F, st, fun v H' F' s r => by
  unfold RelFr at r
  split at r
  · obtain ⟨a, rfl, n, o⟩ := r
    obtain ⟨F'', s2, _, r2⟩ := o.freeze s n
    exact k _ _ _ s2 r2
  · exact k _ _ _ s r⟩
theorem _root_.L2.PE.bw (h : PE X e (tE X.K ρ p)) : PE X e (tBw X.K ρ p) := h.mono fun σ H Q ⟨B, F, st, k⟩ => ⟨B, F, st, fun v H' F' s r => k v H' F' s (.inl r)⟩
theorem _root_.L2.PE.bwF (h : PE X e (tFr X.K ρ p)) : PE X e (tBw X.K ρ p) := h.mono fun σ H Q ⟨B, F, st, k⟩ => ⟨B, F, st, fun v H' F' s r => k v H' F' s r.b⟩
/-- a value that is no container -/
theorem _root_.L2.PE.fr (h : PE X e (tE X.K ρ p)) (c : p.isCont = false) : PE X e (tFr X.K ρ p) := h.mono fun σ H Q ⟨B, F, st, k⟩ => ⟨B, F, st, fun v H' F' s r => k v H' F' s (.of c r)⟩

/-! ### constants, names -/
def cK (p : PV) : Cl := fun _ => some p
def cVar (i : Nat) : Cl := fun ρ => match ρ[i]? with
  | some (.val p) => some p
  | _ => none
def cVarB (i : Nat) : Cl := fun ρ => match ρ[i]? with
  | some (.val p) => some p
  | some (.own p) => some p
  | _ => none
theorem s_const {v : V} (h : PE X e (tC v)) (r : ∀ F, Rep X.K F p v) : PE X e (tE X.K ρ p) := h.mono fun σ H Q ⟨B, F, st, k⟩ => k _ _ _ (.refl st.fh) (r F)
theorem s_var {i : Nat} (h : PE X e (tVar i)) (hc : cVar i ρ = some p) : PE X e (tE X.K ρ p) := h.mono fun σ H Q ⟨B, F, st, k⟩ => by
  unfold cVar at hc
  split at hc
  · rename_i e
    cases hc
    obtain ⟨v, e2, r⟩ := st.sl i _ e
    exact ⟨v, e2, k _ _ _ (.refl st.fh) r⟩
  · cases hc
theorem s_varB {i : Nat} (h : PE X e (tVar i)) (hc : cVarB i ρ = some p) : PE X e (tBw X.K ρ p) := h.mono fun σ H Q ⟨B, F, st, k⟩ => by
  unfold cVarB at hc
  split at hc
  · rename_i e
    cases hc
    obtain ⟨v, e2, r⟩ := st.sl i _ e
    exact ⟨v, e2, k _ _ _ (.refl st.fh) (.inl r)⟩
  · rename_i e
    cases hc
    obtain ⟨a, e2, r⟩ := st.sl i _ e
    exact ⟨_, e2, k _ _ _ (.refl st.fh) (.inr ⟨a, rfl, r⟩)⟩
  · cases hc

/-! ### operators -/
def cBin (op : Operator) (f g : Cl) : Cl := fun ρ => (f ρ).bind fun p => (g ρ).bind fun q => binV op p q
def cUn (op : UnaryOp) (f : Cl) : Cl := fun ρ => (f ρ).bind fun p => unV op p
def cCmp (op : CmpOp) (f g : Cl) : Cl := fun ρ => (f ρ).bind fun p => (g ρ).bind fun q => (cmpV op p q).map .bl
theorem s_bin (op : Operator) (ha : PE X a (tBw X.K ρ p)) (hb : PE X b (tBw X.K ρ q)) (e : binV op p q = some r) : PE X (.BinOp a op b pos) (tFr X.K ρ r) :=
  (pe_op (ok_bin op) ha hb).mono fun σ H Q ⟨B, F, st, k⟩ => ⟨B, F, st, fun x H1 F1 s1 rx => ⟨B, F1, st.step s1, fun y H2 F2 s2 ry =>
    ⟨p, q, F2, r, s2.fh, rx.step s2, ry, e, fun v H' F' s3 rr => k v H' F' ((s1.trans s2).trans s3) (rr.mono (s1.hh.trans s2.hh))⟩⟩⟩
theorem s_un (op : UnaryOp) (ha : PE X a (tBw X.K ρ p)) (e : unV op p = some r) : PE X (.UnaryOp op a pos) (tFr X.K ρ r) :=
  (pe_un (ok_un op) ha).mono fun σ H Q ⟨B, F, st, k⟩ => ⟨B, F, st, fun x H1 F1 s1 rx =>
    ⟨p, F1, r, s1.fh, rx, e, fun v H' F' s3 rr => k v H' F' (s1.trans s3) (rr.mono s1.hh)⟩⟩
theorem s_cmp (hu : X.A.units + 65 < cLine) (op : CmpOp) {k : Bool} (ha : PE X a (tBw X.K ρ p)) (hb : PE X b (tBw X.K ρ q)) (e : cmpV op p q = some k) (hm : behindInMarks op b = false) : PE X (.Compare a [op] [b] pos) (tE X.K ρ (.bl k)) :=
  (pe_cmpR (ok_cmp hu op) ha hb hm).mono fun σ H Q ⟨B, F, st, k⟩ => ⟨B, F, st, fun x H1 F1 s1 rx => ⟨B, F1, st.step s1, fun y H2 F2 s2 ry =>
    ⟨p, q, F2, _, s2.fh, rx.step s2, ry, congrArg (Option.map PV.bl) e, fun v H' F' s3 rr => k v H' F' ((s1.trans s2).trans s3) rr⟩⟩⟩
theorem t_cmp (hu : X.A.units + 65 < cLine) (op : CmpOp) {k : Bool} (ha : PE X a (tBw X.K ρ p)) (hb : PE X b (tBw X.K ρ q)) (e : cmpV op p q = some k) (hm : behindInMarks op b = false) : PT X (.Compare a [op] [b] pos) (tTs X.K ρ k) :=
  (pt_cmpR (ok_cmp hu op) ha hb hm).mono fun σ H Q ⟨B, F, st, kk⟩ => ⟨B, F, st, fun x H1 F1 s1 rx => ⟨B, F1, st.step s1, fun y H2 F2 s2 ry =>
    ⟨p, q, F2, _, s2.fh, rx.step s2, ry, congrArg (Option.map PV.bl) e, fun v H' F' s3 rr => by
      have rr' : Rep X.K F' (.bl k) v := rr
      cases rr'
      exact ⟨_, rfl, kk H' F' ((s1.trans s2).trans s3)⟩⟩⟩⟩
/-- a < b < c -/
def cChain (op op' : CmpOp) (f g h : Cl) : Cl := fun ρ => (f ρ).bind fun p => (g ρ).bind fun q => (cmpV op p q).bind fun k => if k then (h ρ).bind fun r => (cmpV op' q r).map .bl else some (.bl false)
theorem chain_rdT (hu : X.A.units + 65 < cLine) (op op' : CmpOp) {k : Bool} (e : cmpV op p q = some true) (e' : cmpV op' q r = some k) (σ : L2.St) (H : Hp) (Q : VK) (h : tE X.K ρ (.bl k) σ H Q) :
    tChain (pR2 X.K fun p q => (cmpV op p q).map PV.bl) (pR2 X.K fun p q => (cmpV op' p q).map PV.bl) (tBw X.K ρ p) (tBw X.K ρ q) (tBw X.K ρ r) σ H Q := by
  obtain ⟨B, F, st, kk⟩ := h
  exact ⟨B, F, st, fun x H1 F1 s1 rx => ⟨B, F1, st.step s1, fun y H2 F2 s2 ry =>
    ⟨p, q, F2, _, s2.fh, rx.step s2, ry, congrArg (Option.map PV.bl) e, fun v H' F' s3 rr => by
      have rr' : Rep X.K F' (.bl true) v := rr
      cases rr'
      refine ⟨true, rfl, ?_⟩
      rw [if_pos rfl]
      exact ⟨B, F', ((st.step s1).step s2).step s3, fun w' H4 F4 s4 rw' => ⟨q, r, F4, _, s4.fh, (ry.step s3).step s4, rw', congrArg (Option.map PV.bl) e', fun v2 H5 F5 s5 r5 => kk _ _ _ (((((s1.trans s2).trans s3).trans s4)).trans s5) r5⟩⟩⟩⟩⟩
theorem chain_rdF (hu : X.A.units + 65 < cLine) (op op' : CmpOp) {tc : TE} (e : cmpV op p q = some false) (σ : L2.St) (H : Hp) (Q : VK) (h : tE X.K ρ (.bl false) σ H Q) :
    tChain (pR2 X.K fun p q => (cmpV op p q).map PV.bl) (pR2 X.K fun p q => (cmpV op' p q).map PV.bl) (tBw X.K ρ p) (tBw X.K ρ q) tc σ H Q := by
  obtain ⟨B, F, st, kk⟩ := h
  exact ⟨B, F, st, fun x H1 F1 s1 rx => ⟨B, F1, st.step s1, fun y H2 F2 s2 ry =>
    ⟨p, q, F2, _, s2.fh, rx.step s2, ry, congrArg (Option.map PV.bl) e, fun v H' F' s3 rr => by
      have rr' : Rep X.K F' (.bl false) v := rr
      cases rr'
      refine ⟨false, rfl, ?_⟩
      rw [if_neg Bool.false_ne_true]
      exact kk _ _ _ ((s1.trans s2).trans s3) (.bl false)⟩⟩⟩
theorem s_chainT (hu : X.A.units + 65 < cLine) (op op' : CmpOp) {k : Bool} (ha : PE X a (tBw X.K ρ p)) (hb : PE X b (tBw X.K ρ q)) (hc : PE X c (tBw X.K ρ r)) (e : cmpV op p q = some true) (e' : cmpV op' q r = some k) (hm : lastMarks [op, op'] [b, c] = false) :
    PE X (.Compare a [op, op'] [b, c] pos) (tE X.K ρ (.bl k)) := (pe_chain (ok_cmp hu op) (ok_cmp hu op') ha hb hc hm).mono fun σ H Q h => chain_rdT hu op op' e e' σ H Q h
theorem s_chainF (hu : X.A.units + 65 < cLine) (op op' : CmpOp) (ha : PE X a (tBw X.K ρ p)) (hb : PE X b (tBw X.K ρ q)) {tc : TE} (hc : PE X c tc) (e : cmpV op p q = some false) (hm : lastMarks [op, op'] [b, c] = false) :
    PE X (.Compare a [op, op'] [b, c] pos) (tE X.K ρ (.bl false)) := (pe_chain (ok_cmp hu op) (ok_cmp hu op') ha hb hc hm).mono fun σ H Q h => chain_rdF hu op op' e σ H Q h
theorem t_chainT (hu : X.A.units + 65 < cLine) (op op' : CmpOp) {k : Bool} (ha : PE X a (tBw X.K ρ p)) (hb : PE X b (tBw X.K ρ q)) (hc : PE X c (tBw X.K ρ r)) (e : cmpV op p q = some true) (e' : cmpV op' q r = some k) (hm : lastMarks [op, op'] [b, c] = false) :
    PT X (.Compare a [op, op'] [b, c] pos) (tTs X.K ρ k) := (pt_chain (ok_cmp hu op) (ok_cmp hu op') ha hb hc hm).mono fun σ H Q ⟨B, F, st, kk⟩ => chain_rdT hu op op' e e' σ H _ ⟨B, F, st, fun v H' F' s r => by
      cases r
      exact ⟨k, rfl, kk _ _ s⟩⟩
theorem t_chainF (hu : X.A.units + 65 < cLine) (op op' : CmpOp) (ha : PE X a (tBw X.K ρ p)) (hb : PE X b (tBw X.K ρ q)) {tc : TE} (hc : PE X c tc) (e : cmpV op p q = some false) (hm : lastMarks [op, op'] [b, c] = false) :
    PT X (.Compare a [op, op'] [b, c] pos) (tTs X.K ρ false) := (pt_chain (ok_cmp hu op) (ok_cmp hu op') ha hb hc hm).mono fun σ H Q ⟨B, F, st, kk⟩ => chain_rdF hu op op' e σ H _ ⟨B, F, st, fun v H' F' s r => by
      cases r
      exact ⟨false, rfl, kk _ _ s⟩⟩

/-! ### truth -/
def cTst (f : Cl) : Ct := fun ρ => (f ρ).bind truV
def cNotT (f : Ct) : Ct := fun ρ => (f ρ).map (!·)
def cAndT (f g : Ct) : Ct := fun ρ => (f ρ).bind fun b => if b then g ρ else some false
def cOrT (f g : Ct) : Ct := fun ρ => (f ρ).bind fun b => if b then some true else g ρ
def cCmpT (op : CmpOp) (f g : Cl) : Ct := fun ρ => (f ρ).bind fun p => (g ρ).bind fun q => cmpV op p q
theorem t_tst {k : Bool} (ha : PE X a (tBw X.K ρ p)) (e : truV p = some k) (he : ∀ whole, isTrue a X.env whole = (do let v ← whole; standAt a.pos; holding [v] (truthy v))) : PT X a (tTs X.K ρ k) :=
  (pt_truth ha he).mono fun σ H Q ⟨B, F, st, kk⟩ => ⟨B, F, st, fun x H1 F1 s1 rx => ⟨k, rx.truth s1.fh e, kk H1 F1 s1⟩⟩
theorem t_not {k : Bool} (ha : PT X a (tTs X.K ρ k)) : PT X (.UnaryOp .Not a pos) (tTs X.K ρ (!k)) := (pt_not ha).mono fun σ H Q ⟨B, F, st, kk⟩ => ⟨B, F, st, fun H1 F1 s1 => kk H1 F1 s1⟩
theorem w_and1 {k : Bool} (ha : PT X a (tTs X.K ρ k)) : PW X (.BoolOp .And [a] pos) (tTs X.K ρ k) := pw_and1 ha
theorem w_or1 {k : Bool} (ha : PT X a (tTs X.K ρ k)) : PW X (.BoolOp .Or [a] pos) (tTs X.K ρ k) := pw_or1 ha
variable {rest : List Expr}
theorem w_andT {k : Bool} (ha : PT X a (tTs X.K ρ true)) (hb : PW X (.BoolOp .And (b :: rest) pos) (tTs X.K ρ k)) : PW X (.BoolOp .And (a :: b :: rest) pos) (tTs X.K ρ k) :=
  (pw_and ha hb).mono fun σ H Q ⟨B, F, st, kk⟩ => ⟨B, F, st, fun H1 F1 s1 => by
    dsimp only
    rw [if_pos rfl]
    exact ⟨B, F1, st.step s1, fun H2 F2 s2 => kk H2 F2 (s1.trans s2)⟩⟩
theorem _root_.L2.PW.any {X : Cx} {e : Expr} : PW X e (fun _ _ _ => False) := ⟨fun _ _ _ _ _ _ _ h => h.elim⟩
theorem _root_.L2.PE.any {X : Cx} {e : Expr} : PE X e (fun _ _ _ => False) := ⟨fun _ _ _ _ _ _ h => h.elim⟩
theorem w_andF (ha : PT X a (tTs X.K ρ false)) : PW X (.BoolOp .And (a :: b :: rest) pos) (tTs X.K ρ false) :=
  (pw_and ha PW.any).mono fun σ H Q ⟨B, F, st, kk⟩ => ⟨B, F, st, fun H1 F1 s1 => by
    dsimp only
    rw [if_neg Bool.false_ne_true]
    exact kk H1 F1 s1⟩
theorem w_orF {k : Bool} (ha : PT X a (tTs X.K ρ false)) (hb : PW X (.BoolOp .Or (b :: rest) pos) (tTs X.K ρ k)) : PW X (.BoolOp .Or (a :: b :: rest) pos) (tTs X.K ρ k) :=
  (pw_or ha hb).mono fun σ H Q ⟨B, F, st, kk⟩ => ⟨B, F, st, fun H1 F1 s1 => by
    dsimp only
    rw [if_neg Bool.false_ne_true]
    exact ⟨B, F1, st.step s1, fun H2 F2 s2 => kk H2 F2 (s1.trans s2)⟩⟩
theorem w_orT (ha : PT X a (tTs X.K ρ true)) : PW X (.BoolOp .Or (a :: b :: rest) pos) (tTs X.K ρ true) :=
  (pw_or ha PW.any).mono fun σ H Q ⟨B, F, st, kk⟩ => ⟨B, F, st, fun H1 F1 s1 => by
    dsimp only
    rw [if_pos rfl]
    exact kk H1 F1 s1⟩
/-- as values: all but the last are bools -/
def cNotV (f : Cl) : Cl := fun ρ => (f ρ).bind fun p => match p with
  | .bl b => some (.bl (!b))
  | _ => none
def cAndV (f g : Cl) : Cl := fun ρ => (f ρ).bind fun p => match p with
  | .bl true => g ρ
  | .bl false => some (.bl false)
  | _ => none
def cOrV (f g : Cl) : Cl := fun ρ => (f ρ).bind fun p => match p with
  | .bl true => some (.bl true)
  | .bl false => g ρ
  | _ => none
theorem s_not {k : Bool} (ha : PE X a (tE X.K ρ (.bl k))) : PE X (.UnaryOp .Not a pos) (tE X.K ρ (.bl (!k))) :=
  (pe_not ha).mono fun σ H Q ⟨B, F, st, kk⟩ => ⟨B, F, st, fun v H1 F1 s1 r => by
    cases r
    exact ⟨k, rfl, kk _ H1 F1 s1 (.bl _)⟩⟩
theorem s_one {op : BoolOp} (ha : PE X a (tE X.K ρ p)) : PE X (.BoolOp op [a] pos) (tE X.K ρ p) := pe_one ha
theorem s_andT (ha : PE X a (tE X.K ρ (.bl true))) (hb : PE X (.BoolOp .And (b :: rest) pos) (tE X.K ρ p)) : PE X (.BoolOp .And (a :: b :: rest) pos) (tE X.K ρ p) :=
  (pe_and ha hb).mono fun σ H Q ⟨B, F, st, kk⟩ => ⟨B, F, st, fun v H1 F1 s1 r => by
    cases r
    refine ⟨true, rfl, ?_⟩
    rw [if_pos rfl]
    exact ⟨B, F1, st.step s1, fun v H2 F2 s2 r => kk v H2 F2 (s1.trans s2) r⟩⟩
theorem s_andF (ha : PE X a (tE X.K ρ (.bl false))) : PE X (.BoolOp .And (a :: b :: rest) pos) (tE X.K ρ (.bl false)) :=
  (pe_and ha PE.any).mono fun σ H Q ⟨B, F, st, kk⟩ => ⟨B, F, st, fun v H1 F1 s1 r => by
    cases r
    refine ⟨false, rfl, ?_⟩
    rw [if_neg Bool.false_ne_true]
    exact kk _ H1 F1 s1 (.bl _)⟩
theorem s_orF (ha : PE X a (tE X.K ρ (.bl false))) (hb : PE X (.BoolOp .Or (b :: rest) pos) (tE X.K ρ p)) : PE X (.BoolOp .Or (a :: b :: rest) pos) (tE X.K ρ p) :=
  (pe_or ha hb).mono fun σ H Q ⟨B, F, st, kk⟩ => ⟨B, F, st, fun v H1 F1 s1 r => by
    cases r
    refine ⟨false, rfl, ?_⟩
    rw [if_neg Bool.false_ne_true]
    exact ⟨B, F1, st.step s1, fun v H2 F2 s2 r => kk v H2 F2 (s1.trans s2) r⟩⟩
theorem s_orT (ha : PE X a (tE X.K ρ (.bl true))) : PE X (.BoolOp .Or (a :: b :: rest) pos) (tE X.K ρ (.bl true)) :=
  (pe_or ha PE.any).mono fun σ H Q ⟨B, F, st, kk⟩ => ⟨B, F, st, fun v H1 F1 s1 r => by
    cases r
    refine ⟨true, rfl, ?_⟩
    rw [if_pos rfl]
    exact kk _ H1 F1 s1 (.bl _)⟩
/-- a if t else b -/
def cIf (t : Ct) (f g : Cl) : Cl := fun ρ => (t ρ).bind fun b => if b then f ρ else g ρ
theorem s_ifT (hc : PT X c (tTs X.K ρ true)) (ha : PE X a (tE X.K ρ p)) : PE X (.IfExp c a b pos) (tE X.K ρ p) :=
  (pe_ifExp hc ha PE.any).mono fun σ H Q ⟨B, F, st, kk⟩ => ⟨B, F, st, fun H1 F1 s1 => by
    dsimp only
    rw [if_pos rfl]
    exact ⟨B, F1, st.step s1, fun v H2 F2 s2 r => kk v H2 F2 (s1.trans s2) r⟩⟩
theorem s_ifF (hc : PT X c (tTs X.K ρ false)) (hb : PE X b (tE X.K ρ p)) : PE X (.IfExp c a b pos) (tE X.K ρ p) :=
  (pe_ifExp hc PE.any hb).mono fun σ H Q ⟨B, F, st, kk⟩ => ⟨B, F, st, fun H1 F1 s1 => by
    dsimp only
    rw [if_neg Bool.false_ne_true]
    exact ⟨B, F1, st.step s1, fun v H2 F2 s2 r => kk v H2 F2 (s1.trans s2) r⟩⟩

/-! ### rows of expressions -/
def evs : List Cl → En → Option (List PV)
  | [], _ => some []
  | f :: fs, ρ => (f ρ).bind fun p => (evs fs ρ).map (p :: ·)
variable {es : List Expr} {ps : List PV}
def notStar : Expr → Bool
  | .Starred .. => false
  | _ => true
theorem star_cons (h : notStar e = true) (env : PySem.Env) : starEach (e :: es) env = (false, eval e env) :: starEach es env := by
  cases e <;> first | rfl | (cases h)
theorem star_any : ∀ {es : List Expr} (env : PySem.Env) (pos : Pos), (es.all notStar) = true → (backTo pos (starEach es env)).any (·.1) = false
  | [], _, _, _ => rfl
  | e :: es, env, pos, h => by
    rw [List.all_cons, Bool.and_eq_true] at h
    rw [star_cons h.1]
    show (false || (backTo pos (starEach es env)).any (·.1)) = false
    rw [star_any env pos h.2]
    rfl
theorem a_nil : PA X [] (tAs X.K ρ []) := ⟨fun pos pins s σ H Q I ⟨B, F, st, k⟩ => pa_nil.run pos pins s σ H Q I (k [] H F (.refl st.fh) .nil)⟩
theorem a_cons (ns : notStar e = true) (ha : PE X e (tE X.K ρ p)) (hr : PA X es (tAs X.K ρ ps)) : PA X (e :: es) (tAs X.K ρ (p :: ps)) :=
  ⟨fun pos pins s σ H Q I ⟨B, F, st, k⟩ => (pa_cons ha hr (star_cons ns _)).run pos pins s σ H Q I ⟨B, F, st, fun v H1 F1 s1 r => ⟨B, F1, st.step s1, fun vs H2 F2 s2 rs => k _ _ _ (s1.trans s2) (.cons (r.mono s2.ff) rs)⟩⟩⟩
theorem b_nil : PA X [] (tAb X.K ρ []) := ⟨fun pos pins s σ H Q I ⟨B, F, st, k⟩ => pa_nil.run pos pins s σ H Q I (k [] H F (.refl st.fh) .nil)⟩
theorem b_cons (ns : notStar e = true) (ha : PE X e (tBw X.K ρ p)) (hr : PA X es (tAb X.K ρ ps)) : PA X (e :: es) (tAb X.K ρ (p :: ps)) :=
  ⟨fun pos pins s σ H Q I ⟨B, F, st, k⟩ => (pa_cons ha hr (star_cons ns _)).run pos pins s σ H Q I ⟨B, F, st, fun v H1 F1 s1 r => ⟨B, F1, st.step s1, fun vs H2 F2 s2 rs => k _ _ _ (s1.trans s2) (.cons (r.step s2) rs)⟩⟩⟩
def cTup (fs : List Cl) : Cl := fun ρ => (evs fs ρ).bind fun ps => if seqOk ps.length then some (.tup ps) else none
def cLst (fs : List Cl) : Cl := fun ρ => (evs fs ρ).bind fun ps => if seqOk ps.length then some (.lst ps) else none
theorem s_tup {x1 : Nat} (h : PA X es (tAs X.K ρ ps)) (c : seqOk ps.length = true) : PE X (.Tuple es x1 pos) (tE X.K ρ (.tup ps)) :=
  (pe_tup h).mono fun σ H Q ⟨B, F, st, k⟩ => ⟨B, F, st, fun vs H1 F1 s1 r => ⟨by rw [← r.length]; exact of_decide_eq_true c, fun z n => k _ _ _ (s1.trans (.new s1.fh n)) (.tup upd_same (r.mono (same_upd (s1.fh.free n))))⟩⟩
theorem s_lst (h : PA X es (tAs X.K ρ ps)) (c : seqOk ps.length = true) : PE X (.List es pos) (tFr X.K ρ (.lst ps)) :=
  (pe_lst h).mono fun σ H Q ⟨B, F, st, k⟩ => ⟨B, F, st, fun vs H1 F1 s1 r => ⟨by rw [← r.length]; exact of_decide_eq_true c, fun z n => k _ _ _ (s1.trans (.new' s1.fh n)) ((frL s1.fh n r).mono s1.hh)⟩⟩

/-! ### calls -/
/-- a def of the program keeps a pure function -/
def spP (K : PySem.W.Frag) (g : List PV → Option PV) : Sp := fun vs H Q _ => ∃ F ps r, Same F H ∧ Reps K F ps vs ∧ g ps = some r ∧ ∀ v H' F', Stp F H F' H' → Rep K F' r v → Q v H'
structure FnX (X : Cx) (x : Str) (g : List PV → Option PV) : Prop where
  ex : ∃ k f fd pn, FnOk X.prog X.w X.K X.mg X.base CX0 k f fd pn (fun vs H Q E => vs.length = pn.length ∧ spP X.K g vs H Q E) ∧ Room k X.A ∧ X.mg x = some (.ref f) ∧ PySem.W.keepIn X.K (.ref f) = true ∧ Binds X.K fd pn [] ∧ ∀ ps r, g ps = some r → ps.length = pn.length
def cApp (g : List PV → Option PV) (fs : List Cl) : Cl := fun ρ => (evs fs ρ).bind g
theorem s_call {x : Str} {g : List PV → Option PV} {pp : Pos} (f : FnX X x g) (hg : Gl X x) (hdb : (x == ("__debug__" : Str)) = false) (ns : (e :: es).all notStar = true) (h : PA X (e :: es) (tAs X.K ρ ps)) (hr : g ps = some r) :
    PE X (.Call (.Name x pp) (e :: es) [] pos) (tE X.K ρ r) := by
  obtain ⟨k, f, fd, pn, F, rm, hm, hk, hb, hl⟩ := f.ex
  rw [List.all_cons, Bool.and_eq_true] at ns
  refine (pe_call F rm hg hm hk hb .nil (E := E0) pass0 h hdb (star_cons ns.1 _) (star_any _ _ ns.2)).mono fun σ H Q ⟨B, F, st, k⟩ => ⟨B, F, st, fun vs H1 F1 s1 rs => ?_⟩
  dsimp only
  rw [List.append_nil]
  exact ⟨by rw [← rs.length]; exact hl ps r hr, F1, ps, r, s1.fh, rs, hr, fun v H' F' s2 rr => k v H' F' (s1.trans s2) rr⟩
theorem s_blt {x : Str} {id : String} {g : List PV → Option PV} {pp : Pos} (ok : CallR X (.builtin id) (pRL X.K g)) (hg : Gl X x) (hm : X.mg x = none) (hv : bootBuiltins x = some (.builtin id)) (hn : x ≠ "__name__") (hdb : (x == ("__debug__" : Str)) = false)
    (ns : (e :: es).all notStar = true) (h : PA X (e :: es) (tAb X.K ρ ps)) (hr : g ps = some r) : PE X (.Call (.Name x pp) (e :: es) [] pos) (tFr X.K ρ r) := by
  rw [List.all_cons, Bool.and_eq_true] at ns
  exact (pe_callB ok hg hm hv h hn hdb (star_cons ns.1 _) (star_any _ _ ns.2)).mono fun σ H Q ⟨B, F, st, k⟩ => ⟨B, F, st, fun vs H1 F1 s1 rs =>
    ⟨ps, F1, r, s1.fh, rs, hr, fun v H' F' s2 rr => k v H' F' (s1.trans s2) (rr.mono s1.hh)⟩⟩
theorem s_bltv {x : Str} {id : String} {g : List PV → Option PV} {pp : Pos} (ok : CallR X (.builtin id) (pRLv X.K g)) (hg : Gl X x) (hm : X.mg x = none) (hv : bootBuiltins x = some (.builtin id)) (hn : x ≠ "__name__") (hdb : (x == ("__debug__" : Str)) = false)
    (ns : (e :: es).all notStar = true) (h : PA X (e :: es) (tAb X.K ρ ps)) (hr : g ps = some r) : PE X (.Call (.Name x pp) (e :: es) [] pos) (tE X.K ρ r) := by
  rw [List.all_cons, Bool.and_eq_true] at ns
  exact (pe_callB ok hg hm hv h hn hdb (star_cons ns.1 _) (star_any _ _ ns.2)).mono fun σ H Q ⟨B, F, st, k⟩ => ⟨B, F, st, fun vs H1 F1 s1 rs =>
    ⟨ps, F1, r, s1.fh, rs, hr, fun v H' F' s2 rr => k v H' F' (s1.trans s2) rr⟩⟩
theorem s_ty {x : Str} {id : String} {g : List PV → Option PV} {pp : Pos} (ok : CallR X (.type id) (pRL X.K g)) (hg : Gl X x) (hm : X.mg x = none) (hv : bootBuiltins x = some (.type id)) (hn : x ≠ "__name__") (hdb : (x == ("__debug__" : Str)) = false)
    (ns : (e :: es).all notStar = true) (h : PA X (e :: es) (tAb X.K ρ ps)) (hr : g ps = some r) : PE X (.Call (.Name x pp) (e :: es) [] pos) (tFr X.K ρ r) := by
  rw [List.all_cons, Bool.and_eq_true] at ns
  exact (pe_callTy ok hg hm hv h hn hdb (star_cons ns.1 _) (star_any _ _ ns.2)).mono fun σ H Q ⟨B, F, st, k⟩ => ⟨B, F, st, fun vs H1 F1 s1 rs =>
    ⟨ps, F1, r, s1.fh, rs, hr, fun v H' F' s2 rr => k v H' F' (s1.trans s2) (rr.mono s1.hh)⟩⟩
/-- isinstance(e, T) -/
def cIsi (t : Ty) (f : Cl) : Cl := fun ρ => (f ρ).map fun p => .bl (isiV t p)
theorem s_isi {t : Ty} {x : Str} {pp pq : Pos} (hg : Gl X "isinstance") (hm : X.mg "isinstance" = none) (hgx : Gl X x) (hmx : X.mg x = none) (hvx : bootBuiltins x = some (.type t.nm)) (hn : x ≠ "__name__") (hdb : (x == ("__debug__" : Str)) = false)
    (ns : notStar e = true) (h : PE X e (tBw X.K ρ p)) : PE X (.Call (.Name "isinstance" pp) [e, .Name x pq] [] pos) (tE X.K ρ (.bl (isiV t p))) := by
  have ht : PE X (.Name x pq) (tC (.ty t.nm)) := pe_bltn hgx hmx hvx rfl hn hdb
  exact (pe_callB (ok_isi t) hg hm (by decide +kernel) (pa_cons h (pa_cons ht pa_nil (by rfl)) (star_cons ns _)) (by decide) (by decide) (star_cons ns _) (by rfl)).mono fun σ H Q ⟨B, F, st, k⟩ => ⟨B, F, st, fun v H1 F1 s1 rv =>
    ⟨p, F1, v, s1.fh, rv, rfl, k _ _ _ s1 (.bl _)⟩⟩
end
end Pi

/-! Pi 7: subscripts, ranges, what is walked, targets, comprehensions. -/
namespace Pi
open PySem PySem.Spec PyProof.Rows L2

/-! ### uniform readings, by closures -/
section
variable (K : PySem.W.Frag)
def uE (f : Cl) : TE := fun σ H Q => ∃ ρ p, f ρ = some p ∧ tE K ρ p σ H Q
def uFr (f : Cl) : TE := fun σ H Q => ∃ ρ p, f ρ = some p ∧ tFr K ρ p σ H Q
def uB (f : Cl) : TE := fun σ H Q => ∃ ρ p, f ρ = some p ∧ tBw K ρ p σ H Q
def uT (f : Ct) : TT := fun σ H Q => ∃ ρ b, f ρ = some b ∧ tTs K ρ b σ H Q
end
section
variable {X : Cx} {e a b c : Expr} {ρ : En} {p q r : PV} {pos : Pos} {f g : Cl} {t : Ct}
theorem mkE (h : ∀ ρ p, f ρ = some p → PE X e (tE X.K ρ p)) : PE X e (uE X.K f) := ⟨fun pins s σ H Q I ⟨ρ, p, e, hw⟩ => (h ρ p e).run pins s σ H Q I hw⟩
theorem mkFr (h : ∀ ρ p, f ρ = some p → PE X e (tFr X.K ρ p)) : PE X e (uFr X.K f) := ⟨fun pins s σ H Q I ⟨ρ, p, e, hw⟩ => (h ρ p e).run pins s σ H Q I hw⟩
theorem mkB (h : ∀ ρ p, f ρ = some p → PE X e (tBw X.K ρ p)) : PE X e (uB X.K f) := ⟨fun pins s σ H Q I ⟨ρ, p, e, hw⟩ => (h ρ p e).run pins s σ H Q I hw⟩
theorem mkT (h : ∀ ρ p, t ρ = some p → PT X e (tTs X.K ρ p)) : PT X e (uT X.K t) := ⟨fun pins s σ H Q I ⟨ρ, p, e, hw⟩ => (h ρ p e).run pins s σ H Q I hw⟩
theorem ofE (h : PE X e (uE X.K f)) (hf : f ρ = some p) : PE X e (tE X.K ρ p) := h.mono fun _ _ _ hw => ⟨ρ, p, hf, hw⟩
theorem ofFr (h : PE X e (uFr X.K f)) (hf : f ρ = some p) : PE X e (tFr X.K ρ p) := h.mono fun _ _ _ hw => ⟨ρ, p, hf, hw⟩
theorem ofB (h : PE X e (uB X.K f)) (hf : f ρ = some p) : PE X e (tBw X.K ρ p) := h.mono fun _ _ _ hw => ⟨ρ, p, hf, hw⟩
theorem ofT {b : Bool} (h : PT X e (uT X.K t)) (hf : t ρ = some b) : PT X e (tTs X.K ρ b) := h.mono fun _ _ _ hw => ⟨ρ, b, hf, hw⟩

/-! ### subscripts -/
def cIx (f g : Cl) : Cl := fun ρ => (f ρ).bind fun p => (g ρ).bind fun q => ixV p q
def noSlice : Expr → Bool
  | .Slice .. => false
  | _ => true
theorem plainIx_of (h : noSlice b = true) : PlainIx b := fun _ _ => by cases b <;> first | rfl | (cases h)
theorem s_ix (hu : X.A.units + 65 < cLine) (hb' : noSlice b = true) (ha : PE X a (tBw X.K ρ p)) (hb : PE X b (tBw X.K ρ q)) (e : ixV p q = some r) : PE X (.Subscript a b pos) (tE X.K ρ r) :=
  (pe_ix (ok_ix hu) ha hb (plainIx_of hb')).mono fun σ H Q ⟨B, F, st, k⟩ => ⟨B, F, st, fun x H1 F1 s1 rx => ⟨B, F1, st.step s1, fun y H2 F2 s2 ry =>
    ⟨p, q, F2, r, s2.fh, rx.step s2, ry, e, fun v H' F' s3 rr => k v H' F' ((s1.trans s2).trans s3) rr⟩⟩⟩
/-- a part of a slice -/
def evO : Option Cl → En → Option (Option Int)
  | none, _ => some none
  | some f, ρ => (f ρ).bind fun p => match p with
    | .int i => some (some i)
    | _ => none
def tO (K : PySem.W.Frag) (ρ : En) (o : Option Int) : TO := fun σ H Q => ∃ B F, StR K B ρ σ H F ∧ ∀ H' F', Stp F H F' H' → Q o H'
theorem s_noPart : PO X none (tO X.K ρ none) := ⟨fun pins s σ H Q I ⟨B, F, st, k⟩ => po_none.run pins s σ H Q I (k H F (.refl st.fh))⟩
theorem s_part {i : Int} (h : PE X e (tBw X.K ρ (.int i))) : PO X (some e) (tO X.K ρ (some i)) := ⟨fun pins s σ H Q I ⟨B, F, st, k⟩ => (po_some h).run pins s σ H Q I ⟨B, F, st, fun v H1 F1 s1 r => ⟨i, r.int, k H1 F1 s1⟩⟩⟩
def cSl (f : Cl) (lo hi : Option Cl) : Cl := fun ρ => (f ρ).bind fun p => (evO lo ρ).bind fun l => (evO hi ρ).bind fun h => slV p l h
theorem s_sl {lo hi : Option Expr} {l h : Option Int} {p2 : Pos} (ha : PE X a (tBw X.K ρ p)) (hl : PO X lo (tO X.K ρ l)) (hh : PO X hi (tO X.K ρ h)) (e : slV p l h = some r) : PE X (.Subscript a (.Slice lo hi none p2) pos) (tFr X.K ρ r) :=
  (pe_slice ok_sl ha hl hh).mono fun σ H Q ⟨B, F, st, k⟩ => ⟨B, F, st, fun x H1 F1 s1 rx => ⟨B, F1, st.step s1, fun H2 F2 s2 => ⟨B, F2, (st.step s1).step s2, fun H3 F3 s3 =>
    ⟨p, F3, r, s3.fh, (rx.step s2).step s3, e, fun v H' F' s4 rr => k v H' F' (((s1.trans s2).trans s3).trans s4) (rr.mono ((s1.hh.trans s2.hh).trans s3.hh))⟩⟩⟩⟩

/-! ### list(range(..)), tuple(range(..)) -/
def rgP (a b : Int) : List PV := (List.range (b - a).toNat).map fun i => PV.int (a + (i : Nat))
theorem reps_rg (K : PySem.W.Frag) (F : Hp) (a b : Int) : Reps K F (rgP a b) (rgV a b) := by
  have e1 : rgP a b = ((List.range (b - a).toNat).map fun i => a + ((i : Nat) : Int)).map PV.int := by rw [List.map_map]; rfl
  have e2 : rgV a b = ((List.range (b - a).toNat).map fun i => a + ((i : Nat) : Int)).map V.int := by rw [List.map_map]; rfl
  rw [e1, e2]
  exact .of_ints _
def rgOk (a b : Int) : Bool := decide (-(2 ^ 62) ≤ a) && decide (a < 2 ^ 62) && decide (-(2 ^ 62) ≤ b) && decide (b < 2 ^ 62) && decide ((b - a).toNat ≤ 2 ^ 24)
theorem rgOk_of {a b : Int} (h : rgOk a b = true) : RgOk a b := by
  simp only [rgOk, Bool.and_eq_true, decide_eq_true_eq] at h
  exact ⟨h.1.1.1.1, h.1.1.1.2, h.1.1.2, h.1.2, h.2⟩
def rgL : List PV → Option (Int × Int)
  | [.int b] => some (0, b)
  | [.int a, .int b] => some (a, b)
  | _ => none
def cLstRg (fs : List Cl) : Cl := fun ρ => (evs fs ρ).bind fun ps => (rgL ps).bind fun ab => if rgOk ab.1 ab.2 then some (.lst (rgP ab.1 ab.2)) else none
def cTupRg (fs : List Cl) : Cl := fun ρ => (evs fs ρ).bind fun ps => (rgL ps).bind fun ab => if rgOk ab.1 ab.2 then some (.tup (rgP ab.1 ab.2)) else none
def tRg (K : PySem.W.Frag) (ρ : En) (a b : Int) : L2.St → Hp → (Int → Int → Hp → Prop) → Prop := fun σ H Q => ∃ B F, StR K B ρ σ H F ∧ ∀ H' F', Stp F H F' H' → Q a b H'
theorem prg_mono {X : Cx} {e : Expr} {t t' : L2.St → Hp → (Int → Int → Hp → Prop) → Prop} (h : PRg X e t) (m : ∀ σ H Q, t' σ H Q → t σ H Q) : PRg X e t' := fun pins s σ H Q I hw => h pins s σ H Q I (m _ _ _ hw)
theorem s_rg1 {i : Int} {pp : Pos} (hg : Gl X "range") (hm : X.mg "range" = none) (ns : notStar a = true) (h : PE X a (tBw X.K ρ (.int i))) : PRg X (.Call (.Name "range" pp) [a] [] pos) (tRg X.K ρ 0 i) :=
  prg_mono (prg_1 hg hm h (star_cons ns _)) fun σ H Q ⟨B, F, st, k⟩ => ⟨B, F, st, fun x H1 F1 s1 r => ⟨i, r.int, k H1 F1 s1⟩⟩
theorem s_rg2 {i j : Int} {pp : Pos} (hg : Gl X "range") (hm : X.mg "range" = none) (ns : notStar a = true) (ns' : notStar b = true) (h : PE X a (tBw X.K ρ (.int i))) (h' : PE X b (tBw X.K ρ (.int j))) : PRg X (.Call (.Name "range" pp) [a, b] [] pos) (tRg X.K ρ i j) :=
  prg_mono (prg_2 hg hm h h' (star_cons ns _) (star_cons ns' _) (star_any _ _ (by rw [List.all_cons, ns']; rfl))) fun σ H Q ⟨B, F, st, k⟩ => ⟨B, F, st, fun x H1 F1 s1 r => ⟨B, F1, st.step s1, fun y H2 F2 s2 r2 => ⟨i, j, r.int, r2.int, k H2 F2 (s1.trans s2)⟩⟩⟩
theorem s_lstRg {i j : Int} {pp : Pos} (hc : X.calm = true) (hg : Gl X "list") (hm : X.mg "list" = none) (ns : notStar e = true) (h : PRg X e (tRg X.K ρ i j)) (c : rgOk i j = true) : PE X (.Call (.Name "list" pp) [e] [] pos) (tFr X.K ρ (.lst (rgP i j))) :=
  (pe_listRg hc hg hm h (star_cons ns _)).mono fun σ H Q ⟨B, F, st, k⟩ => ⟨B, F, st, fun H1 F1 s1 => ⟨rgOk_of c, fun z n => k _ _ _ (s1.trans (.new' s1.fh n)) ((frL s1.fh n (reps_rg _ _ _ _)).mono s1.hh)⟩⟩
theorem s_tupRg {i j : Int} {pp : Pos} (hc : X.calm = true) (hg : Gl X "tuple") (hm : X.mg "tuple" = none) (ns : notStar e = true) (h : PRg X e (tRg X.K ρ i j)) (c : rgOk i j = true) : PE X (.Call (.Name "tuple" pp) [e] [] pos) (tE X.K ρ (.tup (rgP i j))) :=
  (pe_tupRg hc hg hm h (star_cons ns _)).mono fun σ H Q ⟨B, F, st, k⟩ => ⟨B, F, st, fun H1 F1 s1 => ⟨rgOk_of c, fun z n => k _ _ _ (s1.trans (.new s1.fh n)) (.tup upd_same (reps_rg _ _ _ _))⟩⟩

/-! ### what is walked -/
abbrev Ci := En → Option (List PV)
structure ItOk (K : PySem.W.Frag) (Hx F0 : Hp) (J : It) (items : List PV) : Prop where
  go : ∀ i Hc Fc, Same Hx Hc → Same F0 Fc → Same Fc Hc → i < items.length → J.go i Hc
  stop : ∀ i Hc Fc, Same Hx Hc → Same F0 Fc → Same Fc Hc → items.length ≤ i → J.stop i Hc
  yld : ∀ i Hc Fc x H', Same Hx Hc → Same F0 Fc → Same Fc Hc → i < items.length → J.yld i Hc x H' → ∃ p F', items[i]? = some p ∧ Stp Fc Hc F' H' ∧ Rep K F' p x
theorem ItOk.more {K : PySem.W.Frag} {Hx Hy F0 : Hp} {J : It} {items : List PV} (h : ItOk K Hx F0 J items) (s : Same Hx Hy) : ItOk K Hy F0 J items :=
  ⟨fun i Hc Fc a => h.go i Hc Fc (s.trans a), fun i Hc Fc a => h.stop i Hc Fc (s.trans a), fun i Hc Fc x H' a => h.yld i Hc Fc x H' (s.trans a)⟩
/-- a walk over frozen things; over things that stand while the walk lasts -/
def tIt (K : PySem.W.Frag) (ρ : En) (items : List PV) : TI := fun σ H R => ∃ B F, StR K B ρ σ H F ∧ ∀ J H' F', Stp F H F' H' → ItOk K F' F' J items → R J H'
def tItB (K : PySem.W.Frag) (ρ : En) (items : List PV) : TI := fun σ H R => ∃ B F, StR K B ρ σ H F ∧ ∀ J H' F', Stp F H F' H' → ItOk K H' F' J items → R J H'
variable {tg : Expr} {items : List PV}
theorem it_b (h : PI X tg e (tIt X.K ρ items)) : PI X tg e (tItB X.K ρ items) := h.mono fun σ H R ⟨B, F, st, k⟩ => ⟨B, F, st, fun J H1 F1 s1 o => k J H1 F1 s1 (o.more s1.fh)⟩
theorem itl_ok {K : PySem.W.Frag} {Hx F0 : Hp} {a : Addr} {xs : List V} (r : Reps K F0 items xs) (h : ∀ Hc, Same Hx Hc → SqL K Hc a xs) (u : ∀ Hc ys, Same Hx Hc → SqL K Hc a ys → True) : ItOk K Hx F0 (Itl K a) items where
  go := fun i Hc Fc s1 s2 s3 hi => by
    have hx : i < xs.length := by rw [← r.length]; exact hi
    exact ⟨xs, xs[i], h Hc s1, List.getElem?_eq_getElem hx⟩
  stop := fun i Hc Fc s1 s2 s3 hi => ⟨xs, h Hc s1, by rw [← r.length]; exact hi⟩
  yld := fun i Hc Fc x H' s1 s2 s3 hi y => by
    obtain ⟨rfl, y⟩ := y
    obtain ⟨p, e, rp⟩ := r.get' (y xs (h _ s1))
    exact ⟨p, Fc, e, .refl s3, rp.mono s2⟩
theorem itt_ok {K : PySem.W.Frag} {Hx F0 : Hp} {a : Addr} {xs : List V} (r : Reps K F0 items xs) (h : ∀ Hc, Same Hx Hc → SqT K Hc a xs) : ItOk K Hx F0 (Itt K a) items where
  go := fun i Hc Fc s1 s2 s3 hi => by
    have hx : i < xs.length := by rw [← r.length]; exact hi
    exact ⟨xs, xs[i], h Hc s1, List.getElem?_eq_getElem hx⟩
  stop := fun i Hc Fc s1 s2 s3 hi => ⟨xs, h Hc s1, by rw [← r.length]; exact hi⟩
  yld := fun i Hc Fc x H' s1 s2 s3 hi y => by
    obtain ⟨rfl, y⟩ := y
    obtain ⟨p, e, rp⟩ := r.get' (y xs (h _ s1))
    exact ⟨p, Fc, e, .refl s3, rp.mono s2⟩
/-- signs of a text -/
def signs (z : Str) : List PV := z.cps.toList.map fun c => PV.str ⟨#[c]⟩
def itemsOf : PV → Option (List PV)
  | .tup l => some l
  | .lst l => some l
  | .str z => some (signs z)
  | _ => none
theorem _root_.L2.PI.or {t t' : TI} (h : PI X tg e t) (h' : PI X tg e t') : PI X tg e fun σ H R => t σ H R ∨ t' σ H R := ⟨fun pins s σ H R I hw => by
  rcases hw with hw | hw
  · exact h.run pins s σ H R I hw
  · exact h'.run pins s σ H R I hw⟩
theorem i_seq (h : PE X e (tE X.K ρ p)) (hi : itemsOf p = some items) : PI X tg e (tIt X.K ρ items) := by
  cases p <;> first | (cases hi; done) | skip
  · rename_i z
    cases hi
    refine (pi_str h).mono fun σ H R ⟨B, F, st, k⟩ => ⟨B, F, st, fun v H1 F1 s1 r => ?_⟩
    cases r
    refine ⟨z, rfl, k _ _ _ s1 ⟨fun i Hc Fc _ _ _ hi => ?_, fun i Hc Fc _ _ _ hi => ?_, fun i Hc Fc x H' _ _ s3 hi y => ?_⟩⟩
    · show i < z.cps.size
      simpa [signs] using hi
    · show z.cps.size ≤ i
      simpa [signs] using hi
    · obtain ⟨rfl, c, hc, rfl⟩ := (show H' = Hc ∧ ∃ c, z.cps[i]? = some c ∧ x = V.str ⟨#[c]⟩ from y)
      refine ⟨.str ⟨#[c]⟩, Fc, ?_, .refl s3, .str _⟩
      unfold signs
      rw [List.getElem?_map, Array.getElem?_toList, hc]
      rfl
  · cases hi
    refine (pi_tup h).mono fun σ H R ⟨B, F, st, k⟩ => ⟨B, F, st, fun v H1 F1 s1 r => ?_⟩
    cases r with
    | tup ht rr => exact ⟨_, rfl, ⟨_, sqT_mono s1.fh ht⟩, k _ _ _ s1 (itt_ok rr fun Hc s => sqT_mono s ht)⟩
  · cases hi
    refine (pi_list h).mono fun σ H R ⟨B, F, st, k⟩ => ⟨B, F, st, fun v H1 F1 s1 r => ?_⟩
    cases r with
    | lst ht rr => exact ⟨_, rfl, ⟨_, .of (s1.fh _ _ ht)⟩, k _ _ _ s1 (itl_ok rr (fun Hc s => .of (s _ _ ht)) fun _ _ _ _ => trivial)⟩
/-- a list that may be someone's own -/
theorem i_lstB {l : List PV} (h : PE X e (tBw X.K ρ (.lst l))) : PI X tg e (tItB X.K ρ l) :=
  (pi_list h).mono fun σ H R ⟨B, F, st, k⟩ => ⟨B, F, st, fun v H1 F1 s1 r => by
    obtain ⟨a, xs, rfl, ha, rr⟩ := r.lst s1.fh
    exact ⟨a, rfl, ⟨_, .of ha⟩, k _ _ _ s1 (itl_ok rr (fun Hc s => .of (s _ _ ha)) fun _ _ _ _ => trivial)⟩⟩
theorem itr_ok (K : PySem.W.Frag) (Hx F0 : Hp) (lo hi : Int) : ItOk K Hx F0 (Itr lo (hi - lo).toNat) (rgP lo hi) where
  go := fun i Hc Fc s1 s2 s3 h => by
    show i < (hi - lo).toNat
    simpa [rgP] using h
  stop := fun i Hc Fc s1 s2 s3 h => by
    show (hi - lo).toNat ≤ i
    simpa [rgP] using h
  yld := fun i Hc Fc x H' s1 s2 s3 h y => by
    obtain ⟨rfl, rfl⟩ := y
    have h' : i < (hi - lo).toNat := by simpa [rgP] using h
    refine ⟨.int (lo + i), Fc, ?_, .refl s3, .int _⟩
    unfold rgP
    rw [List.getElem?_map, List.getElem?_range h']
    rfl
def rgOk2 (a b : Int) : Bool := decide (-(2 ^ 62) ≤ a) && decide (a < 2 ^ 62) && decide (-(2 ^ 62) ≤ b) && decide (b < 2 ^ 62)
theorem i_rg1 {i : Int} {pp : Pos} (hg : Gl X "range") (hm : X.mg "range" = none) (ns : notStar a = true) (h : PA X [a] (tAb X.K ρ [.int i])) (c : rgOk2 0 i = true) : PI X tg (.Call (.Name "range" pp) [a] [] pos) (tIt X.K ρ (rgP 0 i)) :=
  (pi_range1 hg hm h (star_cons ns _)).mono fun σ H R ⟨B, F, st, k⟩ => ⟨B, F, st, fun vs H1 F1 s1 r => by
    simp only [rgOk2, Bool.and_eq_true, decide_eq_true_eq] at c
    obtain ⟨v, rfl, hv⟩ := r.one
    cases hv.int
    have o := itr_ok X.K F1 F1 0 i
    rw [Int.sub_zero] at o
    exact ⟨i, rfl, c.1.2, c.2, k _ _ _ s1 o⟩⟩
theorem i_rg2 {i j : Int} {pp : Pos} (hg : Gl X "range") (hm : X.mg "range" = none) (ns : notStar a = true) (ns' : notStar b = true) (h : PA X [a, b] (tAb X.K ρ [.int i, .int j])) (c : rgOk2 i j = true) : PI X tg (.Call (.Name "range" pp) [a, b] [] pos) (tIt X.K ρ (rgP i j)) :=
  (pi_range2 hg hm h (by rw [star_cons ns, star_cons ns']; rfl) (by rw [star_cons ns']; rfl)).mono fun σ H R ⟨B, F, st, k⟩ => ⟨B, F, st, fun vs H1 F1 s1 r => by
    simp only [rgOk2, Bool.and_eq_true, decide_eq_true_eq] at c
    obtain ⟨v, u, rfl, hv, hu⟩ := r.two
    cases hv.int; cases hu.int
    exact ⟨i, j, rfl, ⟨c.1.1.1, c.1.1.2, c.1.2, c.2⟩, k _ _ _ s1 (itr_ok X.K F1 F1 i j)⟩⟩
end
end Pi

/-! Pi 8: targets, comprehensions. -/
namespace Pi
open PySem PySem.Spec PyProof.Rows L2
section
variable {K : PySem.W.Frag} {F F' H H' : Hp} {B : Bs} {ρ ρ' : En} {σ σ' : L2.St}

/-! ### slots stored -/
theorem get_set_val {ρ : En} {i j : Nat} {s x : Sl} (h : (ρ.set i s)[j]? = some x) : (j = i ∧ x = s ∧ i < ρ.length) ∨ (j ≠ i ∧ ρ[j]? = some x) := by
  by_cases e : j = i
  · subst e
    have hl : j < ρ.length := by
      have := (List.getElem?_eq_some_iff.mp h).1
      simpa using this
    rw [List.getElem?_set_self hl] at h
    cases h
    exact .inl ⟨rfl, rfl, hl⟩
  · rw [List.getElem?_set_ne (Ne.symm e)] at h
    exact .inr ⟨e, h⟩
theorem StR.setVal (st : StR K B ρ σ H F) {i : Nat} {p : PV} {v : V} (r : Rep K F p v) : StR K B (ρ.set i (.val p)) (σ.set i (some v)) H F where
  len := by rw [List.length_set, List.length_set, st.len]
  fh := st.fh
  hb := st.hb
  fb := st.fb
  fn := st.fn
  sl := fun j x e => by
    rcases get_set_val e with ⟨rfl, rfl, hl⟩ | ⟨n, e⟩
    · refine ⟨v, ?_, r⟩
      rw [List.getElem?_set_self (by rw [← st.len]; exact hl)]
    · rw [List.getElem?_set_ne (Ne.symm n)]
      exact st.sl j x e
  ob := fun j q a e h => by
    rcases get_set_val e with ⟨rfl, z, hl⟩ | ⟨n, e⟩
    · cases z
    · rw [List.getElem?_set_ne (Ne.symm n)] at h
      exact st.ob j q a e h
  dj := fun j k q q' a e e' h h' => by
    rcases get_set_val e with ⟨rfl, z, hl⟩ | ⟨n, e⟩
    · cases z
    · rcases get_set_val e' with ⟨rfl, z, hl⟩ | ⟨n', e'⟩
      · cases z
      · rw [List.getElem?_set_ne (Ne.symm n)] at h
        rw [List.getElem?_set_ne (Ne.symm n')] at h'
        exact st.dj j k q q' a e e' h h'
theorem StR.setUn (st : StR K B ρ σ H F) (i : Nat) (o : Option V) : StR K B (ρ.set i .un) (σ.set i o) H F where
  len := by rw [List.length_set, List.length_set, st.len]
  fh := st.fh
  hb := st.hb
  fb := st.fb
  fn := st.fn
  sl := fun j x e => by
    rcases get_set_val e with ⟨rfl, rfl, hl⟩ | ⟨n, e⟩
    · trivial
    · rw [List.getElem?_set_ne (Ne.symm n)]
      exact st.sl j x e
  ob := fun j q a e h => by
    rcases get_set_val e with ⟨rfl, z, hl⟩ | ⟨n, e⟩
    · cases z
    · rw [List.getElem?_set_ne (Ne.symm n)] at h
      exact st.ob j q a e h
  dj := fun j k q q' a e e' h h' => by
    rcases get_set_val e with ⟨rfl, z, hl⟩ | ⟨n, e⟩
    · cases z
    · rcases get_set_val e' with ⟨rfl, z, hl⟩ | ⟨n', e'⟩
      · cases z
      · rw [List.getElem?_set_ne (Ne.symm n)] at h
        rw [List.getElem?_set_ne (Ne.symm n')] at h'
        exact st.dj j k q q' a e e' h h'
/-- a new object becomes the name's own -/
theorem StR.setOwn (st : StR K B ρ σ H F) {i : Nat} {p : PV} {a : Addr} (o : OwnAt K F H p a) (hb : B.H a = none) (hd : ∀ (j : Nat) q, ρ[j]? = some (.own q) → σ[j]? ≠ some (some (.ref a))) : StR K B (ρ.set i (.own p)) (σ.set i (some (.ref a))) H F where
  len := by rw [List.length_set, List.length_set, st.len]
  fh := st.fh
  hb := st.hb
  fb := st.fb
  fn := st.fn
  sl := fun j x e => by
    rcases get_set_val e with ⟨rfl, rfl, hl⟩ | ⟨n, e⟩
    · refine ⟨a, ?_, o⟩
      rw [List.getElem?_set_self (by rw [← st.len]; exact hl)]
    · rw [List.getElem?_set_ne (Ne.symm n)]
      exact st.sl j x e
  ob := fun j q b e h => by
    rcases get_set_val e with ⟨rfl, z, hl⟩ | ⟨n, e⟩
    · rw [List.getElem?_set_self (by rw [← st.len]; exact hl)] at h
      cases h
      exact hb
    · rw [List.getElem?_set_ne (Ne.symm n)] at h
      exact st.ob j q b e h
  dj := fun j k q q' b e e' h h' => by
    rcases get_set_val e with ⟨ej, z, hl⟩ | ⟨n, e1⟩
    · rcases get_set_val e' with ⟨ek, z', hl'⟩ | ⟨n', e1'⟩
      · rw [ej, ek]
      · rw [ej, List.getElem?_set_self (by rw [← st.len]; exact hl)] at h
        cases h
        rw [List.getElem?_set_ne (Ne.symm n')] at h'
        exact absurd h' (hd k q' e1')
    · rcases get_set_val e' with ⟨ek, z', hl'⟩ | ⟨n', e1'⟩
      · rw [ek, List.getElem?_set_self (by rw [← st.len]; exact hl')] at h'
        cases h'
        rw [List.getElem?_set_ne (Ne.symm n)] at h
        exact absurd h (hd j q e1)
      · rw [List.getElem?_set_ne (Ne.symm n)] at h
        rw [List.getElem?_set_ne (Ne.symm n')] at h'
        exact st.dj j k q q' b e1 e1' h h'
/-- a fresh object is no one's own yet -/
theorem StR.fresh (st : StR K B ρ σ H F) {a : Addr} (n : H a = none) : B.H a = none ∧ ∀ (j : Nat) q, ρ[j]? = some (.own q) → σ[j]? ≠ some (some (.ref a)) := by
  refine ⟨st.hb.free n, fun j q e h => ?_⟩
  obtain ⟨b, e2, _, o, ho, _⟩ := st.sl j _ e
  rw [h] at e2
  cases e2
  rw [n] at ho
  cases ho

/-! ### targets -/
abbrev Tg := PV → En → Option En
def Agree (vs : List Nat) (σ σ' : L2.St) : Prop := σ'.length = σ.length ∧ ∀ j, j ∉ vs → σ'[j]? = σ[j]?
theorem Agree.trans {vs ws : List Nat} {σ σ1 σ2 : L2.St} (a : Agree vs σ σ1) (b : Agree ws σ1 σ2) : Agree (vs ++ ws) σ σ2 :=
  ⟨b.1.trans a.1, fun j h => by
    rw [List.mem_append, not_or] at h
    rw [b.2 j h.2, a.2 j h.1]⟩
def uG (K : PySem.W.Frag) (g : Tg) (vs : List Nat) : TG := fun v σ H Q => ∃ B F ρ p ρ', StR K B ρ σ H F ∧ Rep K F p v ∧ g p ρ = some ρ' ∧ ∀ σ', StR K B ρ' σ' H F → Agree vs σ σ' → Q σ' H
def uGs (K : PySem.W.Frag) (g : List PV → En → Option En) (vs : List Nat) : TGs := fun xs σ H Q => ∃ B F ρ ps ρ', StR K B ρ σ H F ∧ Reps K F ps xs ∧ g ps ρ = some ρ' ∧ ∀ σ', StR K B ρ' σ' H F → Agree vs σ σ' → Q σ' H
def gN (i : Nat) : Tg := fun p ρ => some (ρ.set i (.val p))
def gsN : List PV → En → Option En := fun ps ρ => match ps with
  | [] => some ρ
  | _ => none
def gsC (g : Tg) (gs : List PV → En → Option En) : List PV → En → Option En := fun ps ρ => match ps with
  | p :: ps => (g p ρ).bind (gs ps)
  | [] => none
def gT (gs : List PV → En → Option En) : Tg := fun p ρ => match p with
  | .tup l => gs l ρ
  | .lst l => gs l ρ
  | _ => none
end
section
variable {X : Cx} {e : Expr} {es : List Expr} {pos : Pos} {g : Tg} {gs : List PV → En → Option En} {vs ws : List Nat}
theorem g_name {i : Nat} {x : Str} (hN : X.N.Nodup) (hi : X.N[i]? = some x) (hx : Loc X.env.scope x) (hf : X.fn x = true ∨ X.env.scope.names.lookup x = some .local) : PG X (.Name x pos) (uG X.K (gN i) [i]) :=
  (pg_name hN hi hx hf).mono fun v σ H Q ⟨B, F, ρ, p, ρ', st, r, e, k⟩ => by
    cases e
    refine k _ (st.setVal r) ⟨by rw [List.length_set], fun j hj => ?_⟩
    rw [List.getElem?_set_ne (fun z => hj (by simp [z]))]
theorem gs_nil : PGs X [] (uGs X.K gsN []) := ⟨fun pins s σ H xs us Q I r ⟨B, F, ρ, ps, ρ', st, rr, e, k⟩ => pgs_nil.run pins s σ H xs us Q I r (by
  unfold gsN at e
  split at e
  · cases e
    cases rr
    exact ⟨rfl, k σ st ⟨rfl, fun _ _ => rfl⟩⟩
  · cases e)⟩
theorem assign_cons (h : notStar e = true) (env : PySem.Env) : assignEach (e :: es) env = (false, assign e env) :: assignEach es env := by
  cases e <;> first | rfl | (cases h)
theorem gs_cons (ns : notStar e = true) (h1 : PG X e (uG X.K g vs)) (h2 : PGs X es (uGs X.K gs ws)) : PGs X (e :: es) (uGs X.K (gsC g gs) (vs ++ ws)) :=
  ⟨fun pins s σ H xs us Q I r ⟨B, F, ρ, ps, ρ', st, rr, e, k⟩ => (pgs_cons h1 h2 (by rw [assign_cons ns]; rfl)).run pins s σ H xs us Q I r (by
    unfold gsC at e
    split at e
    · rename_i p ps
      obtain ⟨ρ1, e1, e2⟩ := Option.bind_eq_some_iff.mp e
      cases rr with
      | cons r0 rs => exact ⟨_, _, rfl, B, F, ρ, p, ρ1, st, r0, e1, fun σ1 st1 a1 => ⟨B, F, ρ1, ps, ρ', st1, rs, e2, fun σ2 st2 a2 => k σ2 st2 (a1.trans a2)⟩⟩
    · cases e)⟩
theorem assign_len : ∀ {es : List Expr} (env : PySem.Env), es.all notStar = true → (assignEach es env).length = es.length ∧ (assignEach es env).findIdx? (·.1) = none
  | [], _, _ => ⟨rfl, rfl⟩
  | e :: es, env, h => by
    rw [List.all_cons, Bool.and_eq_true] at h
    obtain ⟨h1, h2⟩ := assign_len env h.2
    rw [assign_cons h.1]
    refine ⟨by rw [List.length_cons, List.length_cons, h1], ?_⟩
    rw [List.findIdx?_cons, h2]
    rfl
theorem _root_.L2.PG.or {t t' : TG} (h : PG X e t) (h' : PG X e t') : PG X e fun v σ H Q => t v σ H Q ∨ t' v σ H Q := ⟨fun pins s σ H v u Q I r hw => by
  rcases hw with hw | hw
  · exact h.run pins s σ H v u Q I r hw
  · exact h'.run pins s σ H v u Q I r hw⟩
/-- how many a row of targets takes -/
def gsLen (gs : List PV → En → Option En) (n : Nat) : Prop := ∀ ps ρ ρ', gs ps ρ = some ρ' → ps.length = n
theorem gsN_len : gsLen gsN 0 := fun ps ρ ρ' e => by
  unfold gsN at e
  split at e
  · rfl
  · cases e
theorem gsC_len {n : Nat} (h : gsLen gs n) : gsLen (gsC g gs) (n + 1) := fun ps ρ ρ' e => by
  unfold gsC at e
  split at e
  · obtain ⟨ρ1, _, e2⟩ := Option.bind_eq_some_iff.mp e
    rw [List.length_cons, h _ _ _ e2]
  · cases e
theorem g_tup {k : Nat} (hc : X.calm = true) (ns : es.all notStar = true) (hl : gsLen gs es.length) (h : PGs X es (uGs X.K gs vs)) : PG X (.Tuple es k pos) (uG X.K (gT gs) vs) := by
  obtain ⟨h1, h2⟩ := assign_len X.env ns
  refine ((pg_tup hc h h1 h2).or (pg_unl hc h h1 h2)).mono fun v σ H Q ⟨B, F, ρ, p, ρ', st, r, e, k⟩ => ?_
  unfold gT at e
  split at e
  · cases r with
    | tup ha ra => exact .inl ⟨_, _, rfl, sqT_mono st.fh ha, by rw [← ra.length, hl _ _ _ e], B, F, ρ, _, ρ', st, ra, e, k⟩
  · cases r with
    | lst ha ra => exact .inr ⟨_, _, rfl, .of (st.fh _ _ ha), by rw [← ra.length, hl _ _ _ e], B, F, ρ, _, ρ', st, ra, e, k⟩
  · cases e

/-! ### comprehensions -/
def wipeE (ρ : En) : List Nat → En
  | [] => ρ
  | v :: vs => (wipeE ρ vs).set v .un
theorem StR.wipe {K : PySem.W.Frag} {B : Bs} {ρ : En} {σ : L2.St} {H F : Hp} (st : StR K B ρ σ H F) : ∀ vs : List Nat, StR K B (wipeE ρ vs) (wipe σ vs) H F
  | [] => st
  | v :: vs => (StR.wipe st vs).setUn v none
theorem wipe_agree {σ σ' : L2.St} : ∀ {vs : List Nat}, σ'.length = σ.length → (∀ j, j ∉ vs → σ'[j]? = σ[j]?) → wipe σ' vs = wipe σ vs := by
  intro vs hl h
  refine List.ext_getElem? fun j => ?_
  have key : ∀ (τ : L2.St) (vs : List Nat), (wipe τ vs)[j]? = if j ∈ vs then (if j < τ.length then some none else none) else τ[j]? := by
    intro τ vs
    induction vs with
    | nil => rfl
    | cons v vs ih =>
      show ((wipe τ vs).set v none)[j]? = _
      by_cases e : v = j
      · subst e
        rw [if_pos (by simp)]
        by_cases hj : v < τ.length
        · rw [List.getElem?_set_self (by rw [wipe_length]; exact hj), if_pos hj]
        · rw [if_neg hj, List.getElem?_eq_none (by rw [List.length_set, wipe_length]; omega)]
      · rw [List.getElem?_set_ne e, ih]
        by_cases hm : j ∈ vs
        · rw [if_pos hm, if_pos (List.mem_cons_of_mem _ hm)]
        · rw [if_neg hm, if_neg (by simp only [List.mem_cons, not_or]; exact ⟨fun z => e z.symm, hm⟩)]
  rw [key, key]
  by_cases hm : j ∈ vs
  · rw [if_pos hm, if_pos hm, hl]
  · rw [if_neg hm, if_neg hm, h j hm]
theorem Agree.wipe {σ σ' : L2.St} {vs ws : List Nat} (a : Agree vs σ σ') (h : ∀ i ∈ vs, i ∈ ws) : L2.wipe σ' ws = L2.wipe σ ws :=
  wipe_agree a.1 fun j hj => a.2 j fun z => hj (h j z)
/-- the turns of a comprehension -/
def cLoop (g : Tg) (t : Ct) (f : Cl) (ρ : En) : List PV → Option (List PV)
  | [] => some []
  | p :: l => (g p ρ).bind fun ρ1 => (t ρ1).bind fun b => if b then (f ρ1).bind fun q => (cLoop g t f ρ l).map (q :: ·) else cLoop g t f ρ l
def cYes : Ct := fun _ => some true
def cComp (vs : List Nat) (g : Tg) (it : Ci) (t : Ct) (f : Cl) : Cl := fun ρ => (it ρ).bind fun items => (cLoop g t f (wipeE ρ vs) items).bind fun l => if seqOk l.length then some (.lst l) else none
theorem t_yes : PTs X [] (uT X.K cYes) := ⟨fun pins s σ H Q I ⟨ρ, b, e, B, F, st, k⟩ => pts_nil.run pins s σ H Q I (by
  cases e
  exact k H F (.refl st.fh))⟩
theorem t_one {c : Expr} {t : Ct} (h : PT X c (uT X.K t)) : PTs X [c] (uT X.K t) := pts_one h
def noSet : Expr → Bool
  | .Set .. => false
  | _ => true
theorem folded_of {iter : Expr} (h : noSet iter = true) (env : PySem.Env) (x : Value) : foldedSetIterable iter env x = pure x := by
  cases iter <;> first | rfl | (cases h)
/-- the loop of a comprehension: the invariant, over any walk -/
theorem lc_walk {K : PySem.W.Frag} {g : Tg} {gv : List Nat} {t : Ct} {f : Cl} {ρ : En} {σ : L2.St} {H F H1 F1 : Hp} {B : Bs} {J : It} {items : List PV} {vs : List Nat} {l : List PV} {D : Addr} {Qd : Hp → Prop}
    (st : StR K B ρ σ H F) (s1 : Stp F H F1 H1) (o : ItOk K H1 F1 J items) (hD : H1 D = none) (hv : ∀ i ∈ gv, i ∈ vs) (hl : cLoop g t f (wipeE ρ vs) items = some l) (hz : l.length ≤ sizeLine)
    (fin : ∀ H' F', Stp F1 H1 F' H' → RelFr K H1 F' H' (.lst l) (.ref D) → Qd H') :
    ∃ W : Nat → Nat → Hp → Prop, (∃ m, W 0 m (upd H1 D (.lst []))) ∧ ∀ i m H, W i m H →
      (J.stop i H ∧ Qd H) ∨ (J.go i H ∧ ∃ Nx : Hp → Prop, (∀ H', Nx H' → ∃ m', m' < m ∧ W (i + 1) m' H') ∧ ∀ x H', J.yld i H x H' → uG K g gv x (wipe σ vs) H' fun σ2 H2 => wipe σ2 vs = wipe σ vs ∧ uT K t σ2 H2 fun b H3 =>
        if b = true then uE K f σ2 H3 fun y H4 => ∃ acc, H4 D = some (.lst acc) ∧ acc.length < sizeLine ∧ Nx (upd H4 D (.lst (acc ++ [y]))) else Nx H3) := by
  -- the invariant
  let Iv : Nat → List PV → Hp → Prop := fun i rest Hc => ∃ Fc acc qs, Stp F1 H1 Fc Hc ∧ Fc D = none ∧ Hc D = some (.lst acc) ∧ Reps K Fc qs acc ∧ l = qs ++ rest ∧ cLoop g t f (wipeE ρ vs) (items.drop i) = some rest
  refine ⟨fun i m Hc => m = items.length - i ∧ i ≤ items.length ∧ ∃ rest, Iv i rest Hc, ⟨items.length, by simp, Nat.zero_le _, l, F1, [], [], .new' s1.fh hD, s1.fh.free hD, upd_same, .nil, rfl, by rw [List.drop_zero]; exact hl⟩, ?_⟩
  rintro i m Hc ⟨rfl, hi, rest, Fc, acc, qs, sc, hf, hd, ra, el, hr⟩
  by_cases hlt : i < items.length
  · refine .inr ⟨o.go i Hc Fc sc.hh sc.ff sc.fh hlt, fun H' => ∃ rest, Iv (i + 1) rest H', fun H' h => ⟨items.length - (i + 1), by omega, rfl, hlt, h⟩, fun x H' y => ?_⟩
    obtain ⟨p, F', ep, sp, rp⟩ := o.yld i Hc Fc x H' sc.hh sc.ff sc.fh hlt y
    have ed : items.drop i = p :: items.drop (i + 1) := by
      rw [List.drop_eq_getElem_cons hlt]
      rw [List.getElem?_eq_getElem hlt] at ep
      cases ep
      rfl
    rw [ed] at hr
    obtain ⟨ρ1, e1, hr⟩ := Option.bind_eq_some_iff.mp hr
    obtain ⟨b, e2, hr⟩ := Option.bind_eq_some_iff.mp hr
    have st0 : StR K B (wipeE ρ vs) (wipe σ vs) H' F' := (((st.step s1).step sc).step sp).wipe vs
    refine ⟨B, F', wipeE ρ vs, p, ρ1, st0, rp, e1, fun σ2 st2 ag => ?_⟩
    refine ⟨?_, ρ1, b, e2, B, F', st2, fun H3 F3 s3 => ?_⟩
    · rw [ag.wipe hv]
      exact wipe_agree (wipe_length _ _) fun j hj => by rw [wipe_out hj]
    · have D3 : Stp Fc Hc F3 H3 := sp.trans s3
      have hd3 : H3 D = some (.lst acc) := D3.hh _ _ hd
      have hf3 : F3 D = none := by
        cases q : F3 D with
        | none => rfl
        | some u =>
          rcases D3.nw D u q with z | z
          · rw [hf] at z; cases z
          · rw [hd] at z; cases z
      cases b with
      | false =>
        rw [if_neg Bool.false_ne_true] at hr
        dsimp only
        rw [if_neg Bool.false_ne_true]
        exact ⟨rest, F3, acc, qs, sc.trans D3, hf3, hd3, ra.mono D3.ff, el, hr⟩
      | true =>
        rw [if_pos rfl] at hr
        dsimp only
        rw [if_pos rfl]
        obtain ⟨q, e3, hr⟩ := Option.bind_eq_some_iff.mp hr
        obtain ⟨rest', e4, rfl⟩ := Option.map_eq_some_iff.mp hr
        refine ⟨ρ1, q, e3, B, F3, st2.step s3, fun y H4 F4 s4 ry => ?_⟩
        have hd4 : H4 D = some (.lst acc) := s4.hh _ _ hd3
        have hf4 : F4 D = none := by
          cases q : F4 D with
          | none => rfl
          | some u =>
            rcases s4.nw D u q with z | z
            · rw [hf3] at z; cases z
            · rw [hd3] at z; cases z
        have hacc : acc.length < sizeLine := by
          have h1 := ra.length
          have h2 : l.length = qs.length + (rest'.length + 1) := by rw [el, List.length_append, List.length_cons]
          omega
        have s04 : Stp F1 H1 F4 H4 := (sc.trans D3).trans s4
        refine ⟨acc, hd4, hacc, rest', F4, acc ++ [y], qs ++ [q], ⟨fun b u e => ?_, s04.ff, fun b u e => ?_, s04.nw⟩, hf4, upd_same, ((ra.mono D3.ff).mono s4.ff).append (.one ry), by rw [el, List.append_assoc]; rfl, e4⟩
        · rw [upd_ne (ne_of_none e hD)]
          exact s04.hh b u e
        · rw [upd_ne (ne_of_none e hf4)]
          exact s04.fh b u e
  · have e : i = items.length := by omega
    subst e
    rw [List.drop_length] at hr
    cases hr
    rw [List.append_nil] at el
    subst el
    exact .inl ⟨o.stop _ Hc Fc sc.hh sc.ff sc.fh (Nat.le_refl _), fin Hc Fc sc ⟨D, rfl, hD, hf, _, hd, ra⟩⟩
theorem s_comp {elt tg iter : Expr} {ifs : List Expr} {scope : Scope} {own : List (Str × Nat)} {ρ : En} {items l : List PV} {gv : List Nat} {t : Ct} {f : Cl} (hc : X.calm = true) (hN : X.N.Nodup) (ok : BlkOk X.N X.env.scope scope own) (hv : ∀ i ∈ gv, i ∈ own.map (·.2))
    (hi : PI X tg iter (tItB X.K ρ items)) (hg : ∀ (s : Shared) (H : Hp) (C : Addr) (cl : List (Str × Addr)) (fp : List Addr), PG (X.blk s H scope (compEnvC scope cl C X.env) fp) tg (uG X.K g gv))
    (ht : ∀ (s : Shared) (H : Hp) (C : Addr) (cl : List (Str × Addr)) (fp : List Addr), PTs (X.blk s H scope (compEnvC scope cl C X.env) fp) ifs (uT X.K t))
    (he : ∀ (s : Shared) (H : Hp) (C : Addr) (cl : List (Str × Addr)) (fp : List Addr), PE (X.blk s H scope (compEnvC scope cl C X.env) fp) elt (uE X.K f)) (ns : noSet iter = true)
    (hl : cLoop g t f (wipeE ρ (own.map (·.2))) items = some l) (hz : seqOk l.length = true) : PE X (.ListComp elt [⟨tg, iter, ifs, 0⟩] scope pos) (tFr X.K ρ (.lst l)) :=
  (pe_lc hc hN hi ok hg ht he (folded_of ns _)).mono fun σ H Q ⟨B, F, st, k⟩ => ⟨B, F, st, fun J H1 F1 s1 o D hD =>
    lc_walk st s1 o hD hv hl (of_decide_eq_true hz) fun H' F' s2 r => k _ _ _ (s1.trans s2) (r.mono s1.hh)⟩
end
end Pi

/-! Pi 8b: sorted(set(t)) of a tuple of ints. -/
namespace Pi
open PySem PySem.Spec PyProof.Rows L2
/-- a number put into a rising list, once -/
def insU (x : Int) : List Int → List Int
  | [] => [x]
  | y :: l => if x < y then x :: y :: l else if x = y then y :: l else y :: insU x l
def ssI : List Int → List Int
  | [] => []
  | x :: l => insU x (ssI l)
theorem insU_mem (x k : Int) : ∀ l : List Int, k ∈ insU x l ↔ k = x ∨ k ∈ l
  | [] => by simp [insU]
  | y :: l => by
    unfold insU
    split
    · simp
    · split
      · rename_i e
        subst e
        simp
      · rw [List.mem_cons, insU_mem x k l, List.mem_cons]
        constructor
        · rintro (h | h | h)
          · exact .inr (.inl h)
          · exact .inl h
          · exact .inr (.inr h)
        · rintro (h | h | h)
          · exact .inr (.inl h)
          · exact .inl h
          · exact .inr (.inr h)
theorem insU_pw (x : Int) : ∀ l : List Int, l.Pairwise (· < ·) → (insU x l).Pairwise (· < ·)
  | [], _ => by simp [insU]
  | y :: l, h => by
    obtain ⟨h1, h2⟩ := List.pairwise_cons.mp h
    unfold insU
    split
    · rename_i e
      refine List.pairwise_cons.mpr ⟨fun k hk => ?_, h⟩
      rcases List.mem_cons.mp hk with e2 | e2
      · rw [e2]; exact e
      · exact Int.lt_trans e (h1 k e2)
    · split
      · exact h
      · refine List.pairwise_cons.mpr ⟨fun k hk => ?_, insU_pw x l h2⟩
        rcases (insU_mem x k l).mp hk with e2 | e2
        · rw [e2]; omega
        · exact h1 k e2
theorem ssI_mem (k : Int) : ∀ l : List Int, k ∈ ssI l ↔ k ∈ l
  | [] => by simp [ssI]
  | x :: l => by rw [ssI, insU_mem, ssI_mem k l, List.mem_cons]
theorem ssI_pw : ∀ l : List Int, (ssI l).Pairwise (· < ·)
  | [] => List.Pairwise.nil
  | x :: l => insU_pw x _ (ssI_pw l)
/-- two rising lists with the same members are one -/
theorem pw_uniq : ∀ {l m : List Int}, l.Pairwise (· < ·) → m.Pairwise (· < ·) → (∀ k, k ∈ l ↔ k ∈ m) → l = m
  | [], [], _, _, _ => rfl
  | [], y :: m, _, _, h => by have := (h y).mpr List.mem_cons_self; simp at this
  | x :: l, [], _, _, h => by have := (h x).mp List.mem_cons_self; simp at this
  | x :: l, y :: m, h1, h2, h => by
    obtain ⟨a1, a2⟩ := List.pairwise_cons.mp h1
    obtain ⟨b1, b2⟩ := List.pairwise_cons.mp h2
    have e : x = y := by
      rcases List.mem_cons.mp ((h x).mp List.mem_cons_self) with e | e
      · exact e
      · rcases List.mem_cons.mp ((h y).mpr List.mem_cons_self) with e2 | e2
        · exact e2.symm
        · have q1 := b1 x e
          have q2 := a1 y e2
          omega
    subst e
    congr 1
    refine pw_uniq a2 b2 fun k => ⟨fun hk => ?_, fun hk => ?_⟩
    · rcases List.mem_cons.mp ((h k).mp (List.mem_cons_of_mem _ hk)) with e | e
      · have := a1 k hk; omega
      · exact e
    · rcases List.mem_cons.mp ((h k).mpr (List.mem_cons_of_mem _ hk)) with e | e
      · have := b1 k hk; omega
      · exact e
/-- sorted(set(t)) -/
def ssV : PV → Option PV
  | .tup l => (intsOf l).bind fun ns => if ns.length < 64 then some (.lst ((ssI ns).map .int)) else none
  | _ => none
def cSs (f : Cl) : Cl := fun ρ => (f ρ).bind ssV
theorem Reps.vals {K : PySem.W.Frag} {F : Hp} : ∀ {ns : List Int} {xs : List V}, Reps K F (ns.map PV.int) xs → xs = ns.map V.int
  | [], _, h => by cases h; rfl
  | n :: ns, _, h => by
    cases h with
    | cons h1 h2 => cases h1; rw [Reps.vals h2]; rfl
theorem s_ss {X : Cx} {a : Expr} {ρ : En} {v r : PV} {p2 q p pos : Pos} (hg : Gl X "sorted") (hm : X.mg "sorted" = none) (hg2 : Gl X "set") (hm2 : X.mg "set" = none) (ha : PE X a (tBw X.K ρ v)) (hn : notStar a = true) (hc : X.calm = true) (hv : ssV v = some r) :
    PE X (.Call (.Name "sorted" p) [.Call (.Name "set" p2) [a] [] q] [] pos) (tFr X.K ρ r) := by
  refine ⟨fun pins s σ H Q I ⟨B, F, st, k⟩ => ?_⟩
  have na : starEach [a] X.env = (false, eval a X.env) :: starEach [] X.env := star_cons hn _
  refine Call_ (ld_blt (u := .builtin "sorted") I hg hm (by decide +kernel) ?_)
  refine PyProof.Rows.callWith_builtin1 (PyProof.Rows.args_cons ?_ rfl) rfl rfl
  refine Call_ (ld_blt I hg2 hm2 boot_set ?_)
  refine PyProof.Rows.callWith_type1 (PyProof.Rows.args_cons (thn (ha.run pins s σ H (fun x H1 => ∃ F1, Stp F H F1 H1 ∧ RelB X.K F1 H1 v x) I ⟨B, F, st, fun v' H' F' s1 rb => ⟨F', s1, rb⟩⟩) fun u s1 ⟨x, H1, I1, r1, q1⟩ => PyProof.Rows.args_nil ?_) na) na rfl
  obtain ⟨F1, s2, rb⟩ := q1
  unfold ssV at hv
  split at hv
  · rename_i l
    obtain ⟨ns, e1, e2⟩ := Option.bind_eq_some_iff.mp hv
    split at e2
    · rename_i h64
      cases e2
      obtain ⟨a0, xs, rfl, ht, rt⟩ := rb.tup s2.fh
      obtain ⟨its, rv, pl, hz⟩ := I1.tuple ht.sq
      cases r1
      rw [intsOf_map e1] at rt
      rw [rt.vals] at rv
      have hI := ints_of_vals rv
      refine call_set_tupI ns (I1.ok.hd hc) pl (by simpa using hI) (by unfold scanBound; omega) fun h' tk c hR hcn hk => ?_
      refine PyProof.Rows.args_nil ?_
      have I2 : Inv X pins σ H1 { s1 with heap := h', toks := tk } := I1.kept fun b o e => hk b o e
      refine sorted_set hR (I2.ok.hd hc) (by omega) fun s' p0 out c0 ms kk g o hp hgt hi hs hmm hl => ?_
      have em : ms = ssI ns := pw_uniq hs (ssI_pw ns) fun z => by rw [hmm z, ssI_mem]; exact decide_eq_true_iff
      subst em
      have hlen : ((ssI ns).map V.int).length ≤ sizeLine := by rw [List.length_map, hl, sizeLine_eq]; omega
      have hnn : H1 p0 = none := I2.hok.fresh hp
      have J : Inv X pins σ (upd H1 p0 (.lst ((ssI ns).map V.int))) s' := I2.call' (ch := []) o (Un.laid kk hp hnn) (I2.hok.laid kk hp ⟨hlen, out.toList, c0, vals_of_ints hi, hgt⟩) (by rw [g]; exact I2.bare) (fun _ z => nomatch z)
      exact ⟨.ref p0, _, J, rfl, k _ _ _ (s2.trans (.new' s2.fh hnn)) ((frL s2.fh hnn (.of_ints (ssI ns))).mono s2.hh)⟩
    · cases e2
  · cases hv
end Pi

/-! Pi 8c: slices with a step; text joined. -/
namespace Pi
open PySem PySem.Spec PyProof.Rows L2
/-- the items at these places -/
def picks {α : Type} (l : List α) (is : List Nat) : List α := is.filterMap fun i => l[i]?
theorem reps_at {K : PySem.W.Frag} {F : Hp} : ∀ {l : List PV} {xs : List V}, Reps K F l xs → ∀ i : Nat, (l[i]? = none ∧ xs[i]? = none) ∨ ∃ p v, l[i]? = some p ∧ xs[i]? = some v ∧ Rep K F p v
  | _, _, .nil, i => .inl ⟨by simp, by simp⟩
  | _, _, .cons r t, 0 => .inr ⟨_, _, rfl, rfl, r⟩
  | _, _, .cons r t, i + 1 => by
    rw [List.getElem?_cons_succ, List.getElem?_cons_succ]
    exact reps_at t i
theorem vals_at : ∀ {xs : List V} {us : List Value}, Vals xs us → ∀ i : Nat, (xs[i]? = none ∧ us[i]? = none) ∨ ∃ v u, xs[i]? = some v ∧ us[i]? = some u ∧ RelV v u
  | _, _, .nil, i => .inl ⟨by simp, by simp⟩
  | _, _, .cons r t, 0 => .inr ⟨_, _, rfl, rfl, r⟩
  | _, _, .cons r t, i + 1 => by
    rw [List.getElem?_cons_succ, List.getElem?_cons_succ]
    exact vals_at t i
theorem Reps.picks {K : PySem.W.Frag} {F : Hp} {l : List PV} {xs : List V} (r : Reps K F l xs) : ∀ is : List Nat, Reps K F (Pi.picks l is) (Pi.picks xs is)
  | [] => .nil
  | i :: is => by
    unfold Pi.picks
    rcases reps_at r i with ⟨h1, h2⟩ | ⟨p, v, h1, h2, h3⟩
    · rw [List.filterMap_cons_none h1, List.filterMap_cons_none h2]
      exact Reps.picks r is
    · rw [List.filterMap_cons_some h1, List.filterMap_cons_some h2]
      exact .cons h3 (Reps.picks r is)
theorem vals_picks {xs : List V} {us : List Value} (r : Vals xs us) : ∀ is : List Nat, Vals (Pi.picks xs is) (Pi.picks us is)
  | [] => .nil
  | i :: is => by
    unfold Pi.picks
    rcases vals_at r i with ⟨h1, h2⟩ | ⟨p, v, h1, h2, h3⟩
    · rw [List.filterMap_cons_none h1, List.filterMap_cons_none h2]
      exact vals_picks r is
    · rw [List.filterMap_cons_some h1, List.filterMap_cons_some h2]
      exact .cons h3 (vals_picks r is)
theorem picks_len {α : Type} (l : List α) (is : List Nat) : (picks l is).length ≤ is.length := List.length_filterMap_le _ _
/-- the places of a tuple's slice -/
def isT (n : Nat) (lo hi : Option Int) (st : Int) : List Nat := (List.range (Builtin.Slice.slicePlaces (Builtin.Slice.sliceAdjust lo hi st n).1 (Builtin.Slice.sliceAdjust lo hi st n).2 st)).map fun k : Nat => ((Builtin.Slice.sliceAdjust lo hi st n).1 + (k : Int) * st).toNat
/-- the places of a list's slice -/
def isL (n : Nat) (lo hi : Option Int) (st : Int) : List Nat := sliceRange (sliceBounds lo hi (some st) n).1 (sliceBounds lo hi (some st) n).2.1 (sliceBounds lo hi (some st) n).2.2
def stV : PV → Option Int → Option Int → Int → Option PV
  | .tup l, lo, hi, st => if (isT l.length lo hi st).length ≤ sizeLine then some (.tup (picks l (isT l.length lo hi st))) else none
  | .lst l, lo, hi, st => some (.lst (picks l (isL l.length lo hi st)))
  | _, _, _, _ => none
section
variable {prog : Program} {w : World} {A : Around} {E : Value → Shared → Prop} {s : Shared}
theorem applied_step {sl : Addr} {vl vu vs : Value} {lo hi : Option Int} {st : Int} {n : Nat} {Q : Int × Int × Nat → Shared → Prop} (hs : s.heap.IsSliceOf sl vl vu vs) (pl : IsPart vl lo) (pu : IsPart vu hi) (ps : IsPart vs (some st)) (h0 : st ≠ 0)
    (h : Q ((Builtin.Slice.sliceAdjust lo hi st n).1, st, Builtin.Slice.slicePlaces (Builtin.Slice.sliceAdjust lo hi st n).1 (Builtin.Slice.sliceAdjust lo hi st n).2 st) s) : wpAny (model prog w) A (Builtin.Slice.sliceApplied (.ref sl) (pure (n : Int))) Q E s := by
  obtain ⟨os, hos, hcs, hds⟩ := id hs
  unfold Builtin.Slice.sliceApplied Builtin.Slice.sliceFields
  refine wpAny_bind (wpAny_bind (wpAny_field hos hds (x := vl) rfl (wpAny_bind (wpAny_field hos hds (x := vu) rfl (wpAny_bind (wpAny_field hos hds (x := vs) rfl (wpAny_pure ?_)))))))
  refine wpAny_bind (HT.slicePart_ ps ?_)
  show wpAny _ _ (if ((st : Int) == 0) = true then _ else _) _ _ s
  rw [if_neg (by rw [beq_iff_eq]; exact h0)]
  exact wpAny_bind (HT.slicePart_ pl (wpAny_bind (HT.slicePart_ pu (wpAny_bind (wpAny_pure (wpAny_pure h))))))
theorem tup_step {t sl : Addr} {items : Array Value} {vl vu vs : Value} {lo hi : Option Int} {st : Int} {Q : Value → Shared → Prop} (ht : IsTup s.heap t items) (hs : s.heap.IsSliceOf sl vl vu vs) (pl : IsPart vl lo) (pu : IsPart vu hi) (ps : IsPart vs (some st)) (h0 : st ≠ 0) (h1 : st ≠ 1)
    (h : Q (.ref s.heap.objs.size) { s with heap := s.heap.push { cls := .type "tuple", data := .seq (picks items.toList (isT items.size lo hi st)).toArray } })
    (hsz : (isT items.size lo hi st).length ≤ sizeLine) : wpAny (model prog w) A (getItem (.ref t) (.ref sl)) Q E s := by
  have htake : sizeOk (.seq (picks items.toList (isT items.size lo hi st)).toArray) := by
    show (picks items.toList (isT items.size lo hi st)).toArray.size ≤ sizeLine
    rw [List.size_toArray]
    exact Nat.le_trans (picks_len _ _) hsz
  obtain ⟨os, hos, hcs, hds⟩ := id hs
  have hTs : s.TypeIs (.ref sl) "slice" := ⟨os, hos, hcs⟩
  unfold getItem
  try with_reducible refine wpAny_holding ?_
  first | refine wpAny_bind (wpAny_pure ?_) | skip
  refine wpAny_bind (wpAny_sequenceKey ht.typeIs (by decide) ?_)
  refine wpAny_bind (wpAny_callSpecial?_slot (name := Str.ofString "__getitem__") ht.typeIs PyProof.Rows.slot_tuple_getitem
    (wpAny_call_entry PyProof.Rows.slot_tuple_getitem ht.typeIs entry_tuple_getitem ?_ (args_tuple_getitem _ _)))
  show wpAny _ _ (Builtin.Tuple.tupleItemsOf (.ref t) >>= _) _ _ s
  refine wpAny_bind (tupleItemsOf_ ht ?_)
  refine wpAny_bind (wpAny_typeOf hTs ?_)
  rw [if_pos (by decide)]
  refine wpAny_bind (applied_step hs pl pu ps h0 ?_)
  have hno : ∀ (a : Int) (k : Nat), ¬ ((a == 0 && st == 1 && k == items.size) = true) := fun a k q => by
    rw [Bool.and_eq_true, Bool.and_eq_true] at q
    exact h1 (eq_of_beq q.1.2)
  dsimp only
  rw [if_neg (hno _ _)]
  have ep : ((List.range (Builtin.Slice.slicePlaces (Builtin.Slice.sliceAdjust lo hi st items.size).1 (Builtin.Slice.sliceAdjust lo hi st items.size).2 st)).filterMap fun (k : Nat) => items[((Builtin.Slice.sliceAdjust lo hi st items.size).1 + (k : Int) * st).toNat]?) = picks items.toList (isT items.size lo hi st) := by
    unfold picks isT
    rw [List.filterMap_map]
    congr 1
    funext k
    show _ = items.toList[_]?
    rw [Array.getElem?_toList]
  rw [ep]
  first
    | exact wpAny_bind (m := Builtin.Tuple.tupleExact _) (wpAny_newObj_type (wpAny_pure ⟨_, rfl, wpAny_pure h⟩) htake)
    | exact wpAny_bind (m := Builtin.Tuple.tupleExact _) (wpAny_newObj_type (wpAny_bind (wpAny_pure (wpAny_pure ⟨_, rfl, wpAny_pure h⟩))) htake)
    | exact wpAny_bind (wpAny_bind (m := Builtin.Tuple.tupleExact _) (wpAny_newObj_type (wpAny_pure (wpAny_pure ⟨_, rfl, wpAny_pure h⟩)) htake))
    | exact wpAny_bind (wpAny_bind (m := Builtin.Tuple.tupleExact _) (wpAny_newObj_type (wpAny_pure ⟨_, rfl, wpAny_pure h⟩) htake))
end
section
variable {X : Cx} {a se : Expr} {ρ : En} {p r : PV} {pos p2 : Pos}
theorem s_st {lo hi : Option Expr} {l h : Option Int} {st : Int} (ha : PE X a (tBw X.K ρ p)) (hl : PO X lo (tO X.K ρ l)) (hh : PO X hi (tO X.K ρ h)) (hs : PO X (some se) (tO X.K ρ (some st))) (h0 : st ≠ 0) (h1 : st ≠ 1) (e : stV p l h st = some r) :
    PE X (.Subscript a (.Slice lo hi (some se) p2) pos) (tFr X.K ρ r) := by
  refine ⟨fun pins s σ H Q I ⟨B, F, st0, k⟩ => ?_⟩
  refine Subscript_ (thn (ha.run pins s σ H (fun x H1 => ∃ F1, Stp F H F1 H1 ∧ RelB X.K F1 H1 p x) I ⟨B, F, st0, fun v H' F' s1 rb => ⟨F', s1, rb⟩⟩) fun v s1 ⟨x, H1, I1, r1, F1, sp1, rx⟩ => ?_)
  refine wpAny_Slice (thn (hl.run pins s1 σ H1 (fun o H2 => o = l ∧ ∃ F2, Stp F1 H1 F2 H2) I1 ⟨B, F1, st0.step sp1, fun H' F' s => ⟨rfl, F', s⟩⟩) fun vl s2 ⟨o, H2, I2, pl, eo, F2, sp2⟩ => ?_)
  subst eo
  refine thn (hh.run pins s2 σ H2 (fun o H3 => o = h ∧ ∃ F3, Stp F2 H2 F3 H3) I2 ⟨B, F2, (st0.step sp1).step sp2, fun H' F' s => ⟨rfl, F', s⟩⟩) fun vu s3 ⟨o', H3, I3, pu, eo, F3, sp3⟩ => ?_
  subst eo
  refine thn (hs.run pins s3 σ H3 (fun o H4 => o = some st ∧ ∃ F4, Stp F3 H3 F4 H4) I3 ⟨B, F3, ((st0.step sp1).step sp2).step sp3, fun H' F' s => ⟨rfl, F', s⟩⟩) fun vs s4 ⟨o'', H4, I4, ps, eo, F4, sp4⟩ => ?_
  subst eo
  have I5 : Inv X pins σ H4 { s4 with heap := s4.heap.push { cls := .type "slice", data := .fields #[vl, vu, vs] } } := I4.kept (t' := s4.toks) fun b ob q => Heap.get?_push_of_some _ q
  have spA : Stp F H F4 H4 := ((sp1.trans sp2).trans sp3).trans sp4
  have rx4 : RelB X.K F4 H4 p x := ((rx.step sp2).step sp3).step sp4
  unfold stV at e
  cases p <;> first | (cases e; done) | skip
  · rename_i l0 _
    dsimp only at e
    split at e
    · rename_i hz0
      cases e
      obtain ⟨ad, xs, rfl, hx, ra⟩ := rx4.tup spA.fh
      cases r1
      obtain ⟨its, rv, ht, hz⟩ := I5.tuple hx.sq
      have hlen : its.toArray.size = l0.length := by rw [List.size_toArray, ← rv.length, ra.length]
      show wpAny (model X.prog X.w) X.A (subscriptTail a (.Slice lo hi (some se) p2) (.ref ad) (.ref s4.heap.objs.size)) (EP X pins σ Q) X.xe { s4 with heap := s4.heap.push { cls := .type "slice", data := .fields #[vl, vu, vs] } }
      refine tail_any (ops := [.ref ad, .ref s4.heap.objs.size]) ht.typeIs PyProof.Rows.slot_tuple_getitem.lookup ?_ (by with_unfolding_all rfl)
      refine tup_step ht (Heap.IsSliceOf.new _ vl vu vs) pl pu ps h0 h1 ?_ (by rw [hlen]; exact hz0)
      have hn : H4 _ = none := I5.hok.fresh (Nat.le_refl _)
      refine ⟨.ref _, _, I5.laid (t' := s4.toks) (o := .tup (picks xs (isT l0.length o o' st))) (fun b ob q => Heap.get?_push_of_some _ q) (Nat.le_refl _) ?_, rfl, k _ _ _ (spA.trans (.new spA.fh hn)) ((frT spA.fh hn (ra.picks _)).mono spA.hh)⟩
      refine ⟨Nat.le_trans (picks_len _ _) hz0, picks its (isT l0.length o o' st), vals_picks rv _, _, Heap.get?_push_size _ rfl, rfl, 0, ?_⟩
      rw [hlen]
    · cases e
  · rename_i l0 _
    cases e
    obtain ⟨ad, xs, rfl, hx, ra⟩ := rx4.lst spA.fh
    cases r1
    obtain ⟨its, rv, ht, hz⟩ := I5.list (.of hx)
    have hlen : its.toArray.size = l0.length := by rw [List.size_toArray, ← rv.length, ra.length]
    show wpAny (model X.prog X.w) X.A (subscriptTail a (.Slice lo hi (some se) p2) (.ref ad) (.ref s4.heap.objs.size)) (EP X pins σ Q) X.xe { s4 with heap := s4.heap.push { cls := .type "slice", data := .fields #[vl, vu, vs] } }
    refine tail_any (ops := [.ref ad, .ref s4.heap.objs.size]) ht.isList.typeIs (PySem.slot_list_getitem.lookup) ?_ (by with_unfolding_all rfl)
    have hzz : its.toArray.size ≤ sizeLine := by rw [List.size_toArray, ← rv.length]; exact hz
    have hps := slicePick_size_le its.toArray o o' (some st)
    refine wpAny_getItem_list_slice ht.isList (Heap.IsSliceOf.new _ vl vu vs) pl pu ps (fun z => h0 (Option.some.inj z)) ?_ hzz
    have hn : H4 _ = none := I5.hok.fresh (Nat.le_refl _)
    have ev : Vals (picks xs (isL l0.length o o' st)) (slicePick its.toArray o o' (some st)).toList := by
      have e1 : (slicePick its.toArray o o' (some st)).toList = picks its (isL l0.length o o' st) := by
        unfold slicePick picks isL
        rw [hlen]
        show List.filterMap _ _ = _
        congr 1
        funext k
        exact List.getElem?_toArray ..
      rw [e1]
      exact vals_picks rv _
    refine ⟨.ref _, _, I5.laid (t' := s4.toks) (o := .lst (picks xs (isL l0.length o o' st))) (fun b ob q => Heap.get?_push_of_some _ q) (Nat.le_refl _) ?_, rfl, k _ _ _ (spA.trans (.new' spA.fh hn)) ((frL spA.fh hn (ra.picks _)).mono spA.hh)⟩
    refine ⟨?_, _, 0, ev, Heap.get?_push_size _ rfl⟩
    rw [ev.length, Array.length_toList]
    exact Nat.le_trans hps hzz
end
def cSt (f : Cl) (lo hi : Option Cl) (st : Int) : Cl := fun ρ => (f ρ).bind fun p => (evO lo ρ).bind fun l => (evO hi ρ).bind fun h => stV p l h st
/-- a step that is written -/
def stepI : Expr → Option Int
  | .Constant (.int i) _ _ => some i
  | .UnaryOp .USub (.Constant (.int i) _ _) _ => some (-i)
  | _ => none
theorem s_stepI {X : Cx} {e : Expr} {ρ : En} {i : Int} (h : stepI e = some i) : PO X (some e) (tO X.K ρ (some i)) := by
  unfold stepI at h
  split at h
  · cases h
    exact ⟨fun pins s σ H Q I ⟨B, F, st, k⟩ => (po_some pe_int).run pins s σ H Q I ⟨_, rfl, k H F (.refl st.fh)⟩⟩
  · cases h
    rename_i i _ _ _
    exact ⟨fun pins s σ H Q I ⟨B, F, st, k⟩ => (po_some (pe_un un_neg pe_int)).run pins s σ H Q I ⟨i, rfl, _, rfl, k H F (.refl st.fh)⟩⟩
  · cases h

/-! ### text joined -/
def strsOf : List PV → Option (List Str)
  | [] => some []
  | .str x :: l => (strsOf l).map (x :: ·)
  | _ :: _ => none
theorem strsOf_map : ∀ {l : List PV} {ys : List Str}, strsOf l = some ys → l = ys.map PV.str
  | [], _, e => by cases e; rfl
  | p :: l, ys, e => by
    cases p <;> first | (cases e; done) | skip
    obtain ⟨m, e1, rfl⟩ := Option.map_eq_some_iff.mp (show (strsOf l).map _ = some ys from e)
    rw [strsOf_map e1]
    rfl
theorem reps_strs {K : PySem.W.Frag} {F : Hp} : ∀ {ys : List Str} {xs : List V}, Reps K F (ys.map PV.str) xs → xs = ys.map V.str
  | [], _, h => by cases h; rfl
  | n :: ns, _, h => by
    cases h with
    | cons h1 h2 => cases h1; rw [reps_strs h2]; rfl
def joinV (a : Str) (p : PV) : Option PV := (seqOf p).bind fun l => (strsOf l).bind fun ys => if (ys.map (·.length)).sum + ys.length * a.length ≤ 16777216 then some (.str (Txt.join a ys)) else none
def cJoin (a : Str) (f : Cl) : Cl := fun ρ => (f ρ).bind (joinV a)
theorem s_join {X : Cx} {e : Expr} {ρ : En} {q r : PV} {a : Str} {k : Nat} {p1 apos pos : Pos} (he : PE X e (tBw X.K ρ q)) (hn : notStar e = true) (hline : (apos.endLine == pos.line) = true) (hv : joinV a q = some r) :
    PE X (.Call (.Attribute (.Constant (.str a) k p1) "join" apos) [e] [] pos) (tE X.K ρ r) :=
  (pe_join pe_str he (star_cons hn _) rfl hline).mono fun σ H Q ⟨B, F, st, kk⟩ => by
    obtain ⟨l, e1, e2⟩ := Option.bind_eq_some_iff.mp hv
    obtain ⟨ys, e3, e4⟩ := Option.bind_eq_some_iff.mp e2
    split at e4
    · rename_i hz
      cases e4
      have el := strsOf_map e3
      subst el
      refine ⟨⟨a, rfl⟩, B, F, st, fun v H1 F1 s1 rb => ?_⟩
      have fin : Q (.str (Txt.join a ys)) H1 := kk _ H1 F1 s1 (.str _)
      cases q <;> first | (cases e1; done) | skip
      · cases e1
        obtain ⟨ad, xs, rfl, hx, ra⟩ := rb.tup s1.fh
        rw [reps_strs ra] at hx
        exact ⟨a, ad, ys, rfl, rfl, .inr hx.sq, hz, fin⟩
      · cases e1
        obtain ⟨ad, xs, rfl, hx, ra⟩ := rb.lst s1.fh
        rw [reps_strs ra] at hx
        exact ⟨a, ad, ys, rfl, rfl, .inl (.of hx), hz, fin⟩
    · cases e4
end Pi

/-! Pi 8d: sorted(set(xs)) of a list of tuples of ints. -/
namespace Pi
open PySem PySem.Spec PyProof.Rows L2
/-! ### rows in order -/
def tupI (ns : List Int) : PV := .tup (ns.map .int)
def ddR : List (List Int) → List (List Int)
  | [] => []
  | x :: l => if x ∈ ddR l then ddR l else x :: ddR l
theorem ddR_mem (x : List Int) : ∀ l : List (List Int), x ∈ ddR l ↔ x ∈ l
  | [] => Iff.rfl
  | y :: l => by
    unfold ddR
    split
    · rename_i h
      rw [ddR_mem x l, List.mem_cons]
      constructor
      · exact .inr
      · rintro (rfl | h2)
        · exact (ddR_mem x l).mp h
        · exact h2
    · rw [List.mem_cons, ddR_mem x l, List.mem_cons]
theorem ddR_len : ∀ l : List (List Int), (ddR l).length ≤ l.length
  | [] => Nat.le_refl _
  | y :: l => by
    have := ddR_len l
    unfold ddR
    split
    · rw [List.length_cons]; omega
    · rw [List.length_cons, List.length_cons]; omega
theorem ddR_nd : ∀ l : List (List Int), (ddR l).Nodup
  | [] => List.nodup_nil
  | y :: l => by
    unfold ddR
    split
    · exact ddR_nd l
    · rename_i h
      exact List.nodup_cons.mpr ⟨h, ddR_nd l⟩
def sortR (rs : List (List Int)) : List (List Int) := rs.mergeSort fun a b => decide (a ≤ b)
theorem sortR_pw (rs : List (List Int)) : (sortR rs).Pairwise (· ≤ ·) := by
  have h := List.pairwise_mergeSort (le := fun a b : List Int => decide (a ≤ b)) (fun a b c h1 h2 => decide_eq_true (List.le_trans (of_decide_eq_true h1) (of_decide_eq_true h2))) (fun a b => by
    rcases List.le_total a b with h | h
    · rw [decide_eq_true h, Bool.true_or]
    · rw [decide_eq_true h, Bool.or_true]) rs
  exact h.imp fun h => of_decide_eq_true h
theorem sortR_perm (rs : List (List Int)) : (sortR rs).Perm rs := List.mergeSort_perm rs _
theorem sortR_eq {rs ms : List (List Int)} (hp : ms.Perm rs) (hs : ms.Pairwise (· ≤ ·)) : sortR rs = ms := by
  refine List.Perm.eq_of_pairwise (le := fun a b => a ≤ b) ?_ (sortR_pw rs) hs ((sortR_perm rs).trans hp.symm)
  intro a b _ _ h1 h2
  exact List.le_antisymm h1 h2
theorem sortR_same {rs ms : List (List Int)} (hp : ms.Perm rs) : sortR rs = sortR ms := sortR_eq ((sortR_perm ms).trans hp) (sortR_pw ms)
/-- how tuples of ints stand in order as data -/
theorem dataLe_tupI : PySem.W.dataLe false (fun ns : List Int => PyData.tuple (ns.map .int)) = fun a b => decide (a ≤ b) := by
  funext p q
  show (!PySem.W.dataLt (.tuple (q.map .int)) (.tuple (p.map .int))) = _
  rw [PySem.W.dataLt_tuple]
  show (!PySem.W.rowLt (q.map .int) (p.map .int)) = _
  rw [PySem.W.dataLt_ints]
  by_cases h : q < p
  · rw [decide_eq_true h, decide_eq_false (fun r => List.not_lt.mpr r h)]
    rfl
  · rw [decide_eq_false h, decide_eq_true (List.not_lt.mp h)]
    rfl
/-! ### the set of a tuple of tuples of ints (turned from the kit's lemma for lists) -/
section
variable {P : Program} {w : World} {A : Around} {E : Value → Shared → Prop} {s : Shared}
theorem set_tuple_tups {l : Addr} {items : Array Value} (ks : List (Addr × List Int)) {Q : Value → Shared → Prop} (hh : A.handled = none) (hl : s.heap.IsTuple l items) (hit : items.toList = ks.map fun p => Value.ref p.1)
    (hk : ∀ p ∈ ks, IsT P w s.heap p.2 p.1) (hfew : ks.length < 64) (hu : A.units + 3 < cLine)
    (h : ∀ (h' : Heap) (tk : Nat) L es ep t, SetTR P w h' s.heap.objs.size L es ep t → Got ks ks.length L → (∀ b o, s.heap.get? b = some o → h'.get? b = some o) → Q (.ref s.heap.objs.size) { s with heap := h', toks := tk }) :
    wpAny (model P w) A (call (.type "set") [.ref l]) Q E s := by
  have hisz : items.size = ks.length := by
    have q := congrArg List.length hit
    rw [Array.length_toList, List.length_map] at q
    exact q
  obtain ⟨c, tl, hmro⟩ := F.called_set.mro
  have hmade := F.called_set.made
  have hsub := F.called_set.sub
  refine wpAny_call (codeAny_of_tree ?_)
  show wpAny _ _ (callAny (.type "set") _) _ _ _
  refine wpAny_pure ⟨Code.quiet_builtin _ (by decide +kernel), codeAny_builtin F.entry_type_call ?_⟩
  rw [Around.under_plain (weight_type_call_type "set" [.ref l] []) rfl]
  have h1 := F.called_set.notType
  have h2 := F.called_set.canCreate
  have hct := F.typeCall_set_1 (.ref l)
  repeat (any_goals (first | assumption | wp_step))

  refine codeAny_mono (code_set_led1 (.ref l) (E := E) (Q₁ := fun obj s₁ => obj = .ref s.heap.objs.size ∧ s₁ = { s with heap := s.heap.push { cls := .type "set", dict := none, data := .set #[] 0 (.fresh 0 0 (!w.params.followText "set-order")) } }) ⟨rfl, rfl⟩) fun r s₁ hr => ?_
  cases r with
  | error e => exact hr
  | ok fl =>
    cases fl with
    | ret obj =>
      obtain ⟨rfl, rfl⟩ := hr
      have hS : (s.heap.push { cls := .type "set", dict := none, data := .set #[] 0 (.fresh 0 0 (!w.params.followText "set-order")) }).get? s.heap.objs.size = some { cls := .type "set", dict := none, data := .set #[] 0 (.fresh 0 0 (!w.params.followText "set-order")) } := Heap.get?_push_size _ rfl
      have hT : Shared.TypeIs { s with heap := s.heap.push { cls := .type "set", dict := none, data := .set #[] 0 (.fresh 0 0 (!w.params.followText "set-order")) } } (.ref s.heap.objs.size) "set" := ⟨_, hS, rfl⟩
      have hli := F.called_set.init.lookup
      have hbi := F.called_set.init.bind (.ref s.heap.objs.size)
      repeat (any_goals (first | assumption | wp_step))

      refine codeAny_mono (codeAny_call_builtin (R := wants (fun r s₂ => r = .none ∧ ∃ h' tk L es ep t, s₂ = { s with heap := h', toks := tk } ∧ SetTR P w h' s.heap.objs.size L es ep t ∧ Got ks ks.length L ∧
          (∀ b o, s.heap.get? b = some o → h'.get? b = some o)) E) F.called_set.init.plain F.entry_set_init (check_set_init_1 hT ?_)) fun r₂ s₂ hr₂ => ?_
      · obtain ⟨ol, hol, hcl, nl, hdl⟩ := hl
        obtain ⟨ocls, odict, odata, oslots⟩ := ol
        simp only at hcl hdl
        subst hcl; subst hdl
        have hol' : (s.heap.push { cls := .type "set", dict := none, data := .set #[] 0 (.fresh 0 0 (!w.params.followText "set-order")) }).get? l = some { cls := .type "tuple", dict := odict, data := .seq items nl, slots := oslots } := Heap.get?_push_of_some _ hol
        have hsls := F.sub_tuple_set
        have hslf := F.sub_tuple_frozenset
        have hne : (Value.type "tuple" == Value.type "dict") = false := by decide
        have hl1 : (s.heap.push { cls := .type "set", dict := none, data := .set #[] 0 (.fresh 0 0 (!w.params.followText "set-order")) }).IsTuple l items := ⟨_, hol', rfl, nl, rfl⟩
        unfold Builtin.«set.__init__» noKeywords Builtin.Frozenset.updateFrom
        generalize hPI : pyIter = PI
        wp_walk
        subst hPI

        refine wpAny_pyIter_tuple hl1 ?_
        refine wpAny_bind (wpAny_runValue ?_)
        have hlS : l < s.heap.objs.size := Heap.lt_size hol
        have hh3 : A.in1.in1.in1.handled = none := by simp [hh]
        have hz1 : (s.heap.push { cls := .type "set", dict := none, data := .set #[] 0 (.fresh 0 0 (!w.params.followText "set-order")) }).objs.size = s.heap.objs.size + 1 := Heap.size_push ..
        have hneI : l ≠ (s.heap.push { cls := .type "set", dict := none, data := .set #[] 0 (.fresh 0 0 (!w.params.followText "set-order")) }).objs.size := by
          rw [Heap.size_push]; exact Nat.ne_of_lt (Nat.lt_succ_of_lt hlS)
        have hSf : s.heap.objs.size ∉ [(s.heap.push { cls := .type "set", dict := none, data := .set #[] 0 (.fresh 0 0 (!w.params.followText "set-order")) }).objs.size, l] := by
          rw [Heap.size_push]; simp only [List.mem_cons, List.mem_singleton, List.not_mem_nil, or_false, not_or]
          exact ⟨Nat.ne_of_lt (Nat.lt_succ_self _), Nat.ne_of_gt hlS⟩
        have hval : ∀ (i : Nat) (v : Value), items[i]? = some v → ∃ p, ks[i]? = some p ∧ v = .ref p.1 := fun i v hv => by
          have q : items.toList[i]? = some v := by rw [Array.getElem?_toList]; exact hv
          rw [hit, List.getElem?_map] at q
          cases hq : ks[i]? with
          | none => rw [hq] at q; cases q
          | some p =>
            rw [hq] at q
            exact ⟨p, rfl, (Option.some.inj q).symm⟩
        have none_of : ∀ b, s.heap.objs.size ≤ b → s.heap.get? b = none := fun b hb => by
          cases q : s.heap.get? b with
          | none => rfl
          | some o => exact absurd (Nat.lt_of_lt_of_le (Heap.lt_size q) hb) (Nat.lt_irrefl _)
        refine set_update_tups ((Walks.tuple hh3 _ l hneI items).toS) s.heap.objs.size
          hSf ks hisz hfew hval s.heap hk (none_of _ (Nat.le_refl _)) (fun b hb => none_of b (by
            rw [List.mem_singleton.mp hb, Heap.size_push]
            exact Nat.le_succ _)) hu (items.size - 0) 0 _ (by omega) (Nat.zero_le _)
          ⟨⟨_, Heap.get?_push_size _ rfl, rfl, rfl⟩, (hl1.push _)⟩ (fun b o e => Heap.get?_push_of_some _ (Heap.get?_push_of_some _ e)) ?hS0 ?hR
        case hS0 =>
          have hget : ((s.heap.push { cls := .type "set", dict := none, data := .set #[] 0 (.fresh 0 0 (!w.params.followText "set-order")) }).push { cls := .type "tuple_iterator", data := .fields #[.ref l, .int 0 0] }).get? s.heap.objs.size
              = some { cls := .type "set", dict := none, data := .set #[] 0 (.fresh 0 0 (!w.params.followText "set-order")) } := Heap.get?_push_of_some _ hS
          exact ⟨[], #[], 0, _, setTR_fresh hget, Got.zero ks⟩
        case hR =>
          intro s' L es ep t hm hS' g' hkp
          obtain ⟨h', g2, d', tk', os'⟩ := s'
          have eg : g2 = s.gens := hm.gens
          have ed : d' = s.drawn := hm.drawn
          have eo : os' = s.os := hm.os
          subst eg; subst ed; subst eo
          show wpAny _ _ _ _ _ _
          refine wpAny_pure ?_
          show wpAny _ _ (ret Value.none) _ _ _
          rw [hisz] at g'
          exact wpAny_pure ⟨rfl, h', tk', L, es, ep, t, rfl, hS', g', hkp⟩

      · cases r₂ with
        | error e => exact hr₂
        | ok fl₂ =>
          cases fl₂ with
          | ret r =>
            obtain ⟨rfl, h', tk, L, es, ep, t, rfl, hS', g', hk'⟩ := hr₂
            repeat (any_goals (first | assumption | wp_step))
            exact h _ _ _ _ _ _ hS' g' hk'
          | _ => exact hr₂.elim
    | _ => exact hr.elim
end
/-! ### the set sorted -/
section
variable {P : Program} {w : World} {A : Around} {E : Value → Shared → Prop} {s : Shared}
/-- an address of a row of the set, with its row -/
def RowAt (L : List (Addr × List Int)) (v : Value) (r : List Int) : Prop := ∃ q ∈ L, v = .ref q.1 ∧ r = q.2
theorem rows_of {L : List (Addr × List Int)} : ∀ vs : List Value, (∀ v ∈ vs, ∃ q ∈ L, v = Value.ref q.1) → ∃ L1 : List (Addr × List Int), vs = L1.map (fun q => Value.ref q.1) ∧ ∀ q ∈ L1, q ∈ L
  | [], _ => ⟨[], rfl, fun q hq => by cases hq⟩
  | v :: vs, h => by
    obtain ⟨q, hq, e⟩ := h v List.mem_cons_self
    obtain ⟨L1, e1, h1⟩ := rows_of vs fun u hu => h u (List.mem_cons_of_mem _ hu)
    exact ⟨q :: L1, by rw [List.map_cons, e, e1], fun r hr => (List.mem_cons.mp hr).elim (fun z => z ▸ hq) (h1 r)⟩
theorem each_rows {L : List (Addr × List Int)} : ∀ L1 : List (Addr × List Int), (∀ q ∈ L1, q ∈ L) → PySem.W.EachIs (RowAt L) (L1.map fun q => Value.ref q.1) (L1.map (·.2))
  | [], _ => .nil
  | q :: L1, h => .cons ⟨q, h q List.mem_cons_self, rfl, rfl⟩ (each_rows L1 fun r hr => h r (List.mem_cons_of_mem _ hr))
theorem reads_row {h : Heap} {v : Value} {r : List Int} (t : TS.TupInts h v r) : ∃ as, Reads h v (PyData.tuple (r.map .int)) as := by
  obtain ⟨a, items, rfl, ⟨o, ho, hc, n, hd⟩, hi⟩ := t
  have key : ∀ {vs : List Value} {ns : List Int}, IntsAre vs ns → ∃ as, ReadsAll h vs (ns.map PyData.int) as := fun {vs ns} hi => by
    induction hi with
    | nil => exact ⟨_, .nil⟩
    | cons n t _ ih =>
      obtain ⟨as, ih⟩ := ih
      exact ⟨_, .cons (.int n t) ih⟩
  obtain ⟨as, hr⟩ := key hi
  exact ⟨_, .tuple ho hc hd hr⟩
theorem depth_row (r : List Int) : (PyData.tuple (r.map .int)).depth ≤ 1 := by
  have h : ∀ l : List Int, PyData.depthAll (l.map PyData.int) = 0 := fun l => by
    induction l with
    | nil => simp [PyData.depthAll]
    | cons x l ih => rw [List.map_cons, PyData.depthAll, ih]; rfl
  rw [PyData.depth, h]
  decide
theorem alike_rows : ∀ a b : List Int, PySem.W.alikeAll (a.map PyData.int) (b.map PyData.int) = true
  | [], [] => by simp [PySem.W.alikeAll]
  | [], _ :: _ => by simp [PySem.W.alikeAll]
  | _ :: _, [] => by simp [PySem.W.alikeAll]
  | x :: a, y :: b => by
    rw [List.map_cons, List.map_cons, PySem.W.alikeAll, alike_rows a b]
    simp [PySem.W.alike]
theorem sorted_rows {a : Addr} {L : List (Addr × List Int)} {es : Array (Int × Value)} {ep : Nat} {t : SetTable} {Q : Value → Shared → Prop} (R : SetTR P w s.heap a L es ep t) (hh : A.handled = none) (hu : A.units + 70 < cLine)
    (hQ : ∀ s' p (out : List Value) (c : Nat) (bs : List (List Int)), (∀ b o, s.heap.get? b = some o → s'.heap.get? b = some o) → s'.gens = s.gens → s'.os = s.os → s.heap.objs.size ≤ p →
      s'.heap.get? p = some (seqObj "list" out.toArray c) → bs.Perm (L.map (·.2)) → PySem.W.EachIs (RowAt L) out (sortR bs) → Q (.ref p) s') :
    wpAny (model P w) A (call (.builtin "sorted") [.ref a]) Q E s := by
  obtain ⟨o, ho, hex, hd⟩ := R.ob
  have hfew := R.few
  have hsz := R.size
  refine Calls.call_function_entry kind_sorted plain_sorted entry_sorted (args_sorted1 _) ?_
  unfold Builtin.«sorted»
  refine wpAny_bind (m := checkCount "sorted" 1 1 _) (wpAny_pure ?_)
  refine wpAny_bind (collect_set (A := A.in1) hh ⟨o, ho, hex.1, hd⟩ R.fits (by unfold scanBound; omega) R.tab.ris R.led fun s1 vs k1 hz g1 o1 pm => ?_)
  have hes : es.toList.map (·.2) = L.map fun q => Value.ref q.1 := by
    rw [R.rows]
    unfold rowsOf
    rw [List.map_map]
    rfl
  rw [hes] at pm
  obtain ⟨L1, rfl, hs1⟩ := rows_of (L := L) vs fun v hv => by
    obtain ⟨q, hq, e⟩ := List.mem_map.mp (pm.mem_iff.mp hv)
    exact ⟨q, hq, e.symm⟩
  have hl1 : L1.length < 64 := by
    have := pm.length_eq
    rw [List.length_map, List.length_map] at this
    omega
  have inj : ∀ q ∈ L, ∀ r ∈ L, q.1 = r.1 → q = r := fun q hq r hr e => by
    have a1 := R.tup q hq
    rw [e] at a1
    exact Prod.ext e (a1.inj (R.tup r hr))
  have hbs : (L1.map (·.2)).Perm (L.map (·.2)) := by
    have nL : (L.map fun q => Value.ref q.1).Nodup := by
      have n0 := R.nd
      unfold List.Nodup at n0 ⊢
      rw [List.pairwise_map] at n0 ⊢
      refine List.Pairwise.imp_of_mem ?_ n0
      intro q r hq hr hne e
      injection e with e
      exact hne (by rw [inj q hq r hr e])
    have n1 := pm.nodup_iff.mpr nL
    have nL1 : L1.Nodup := by
      unfold List.Nodup at n1 ⊢
      rw [List.pairwise_map] at n1
      exact n1.imp fun hne e => hne (by rw [e])
    have nL2 : L.Nodup := by
      unfold List.Nodup at nL ⊢
      rw [List.pairwise_map] at nL
      exact nL.imp fun hne e => hne (by rw [e])
    refine ((List.perm_ext_iff_of_nodup nL1 nL2).mpr fun q => ⟨hs1 q, fun hq => ?_⟩).map _
    have : Value.ref q.1 ∈ L1.map fun q => Value.ref q.1 := pm.mem_iff.mpr (List.mem_map.mpr ⟨q, hq, rfl⟩)
    obtain ⟨r, hr, e⟩ := List.mem_map.mp this
    injection e with e
    rw [← inj r (hs1 r hr) q hq e]
    exact hr
  refine wpAny_bind (wpAny_newList ?_ (by rw [List.length_map, sizeLine_eq]; omega))
  have hoL : (s1.heap.push (seqObj "list" (L1.map fun q => Value.ref q.1).toArray 0)).get? s1.heap.objs.size = some (seqObj "list" (L1.map fun q => Value.ref q.1).toArray 0) := Heap.get?_push_size _ rfl
  have e0 := each_rows (L := L) L1 hs1
  have er : ∀ h' : Heap, (∀ b o, s.heap.get? b = some o → h'.get? b = some o) → PySem.W.EachIs (fun v r => ∃ as, Reads h' v (PyData.tuple (r.map .int)) as) (L1.map fun q => Value.ref q.1) (L1.map (·.2)) := fun h' kk => e0.mono fun v r ⟨q, hq, e1, e2⟩ => by
    subst e1 e2
    exact reads_row (tupInts_of (P := P) (w := w) (isT_keep (R.tup q hq) kk))
  have kS : ∀ b o, s.heap.get? b = some o → (PySem.W.sortingHeap (s1.heap.push (seqObj "list" (L1.map fun q => Value.ref q.1).toArray 0)) s1.heap.objs.size (L1.map fun q => Value.ref q.1)).get? b = some o := fun b o e => by
    have e1 := k1 b o e
    exact PySem.W.sortingHeap_old (Nat.ne_of_lt (Heap.lt_size e1)) (Heap.get?_push_of_some _ e1)
  have hal : PySem.W.AllAlike ((L1.map (·.2)).map fun r : List Int => PyData.tuple (r.map .int)) := fun d hd d' hd' => by
    obtain ⟨r, _, rfl⟩ := List.mem_map.mp hd
    obtain ⟨r', _, rfl⟩ := List.mem_map.mp hd'
    rw [PySem.W.alike]
    exact alike_rows r r'
  have hk : PySem.W.Sort2 ((L1.map (·.2)).map fun r : List Int => PyData.tuple (r.map .int)) := .inl fun d hd => by
    obtain ⟨r, _, rfl⟩ := List.mem_map.mp hd
    exact ⟨_, rfl⟩
  have hub : ∀ d, d ∈ ((L1.map (·.2)).map fun r : List Int => PyData.tuple (r.map .int)) → A.in1.in1.units + d.depth < cLine := fun d hd => by
    obtain ⟨r, _, rfl⟩ := List.mem_map.mp hd
    have := depth_row r
    show A.units + 1 + 1 + _ < cLine
    omega
  have erS := er _ kS
  refine wpAny_bind (wpAny_holding (wpAny_call_entry_kw slot_list_sort ⟨_, hoL, rfl⟩ entry_list_sort ?body (args_list_sort _)))
  case body =>
    refine wpAny_mono (PySem.W.list_sort_vals (P := fun f s' => f = .done (.ret .none) ∧ Q (.ref s1.heap.objs.size) s') (s := { s1 with heap := s1.heap.push (seqObj "list" (L1.map fun q => Value.ref q.1).toArray 0) }) hoL
      (PySem.W.SortsAt.two (s := { s1 with heap := PySem.W.sortingHeap (s1.heap.push (seqObj "list" (L1.map fun q => Value.ref q.1).toArray 0)) s1.heap.objs.size (L1.map fun q => Value.ref q.1) }) (PySem.W.each_map (R := fun v d => ∃ as, Reads (PySem.W.sortingHeap (s1.heap.push (seqObj "list" (L1.map fun q => Value.ref q.1).toArray 0)) s1.heap.objs.size (L1.map fun q => Value.ref q.1)) v d as) _ erS) hal hk hub) (by rw [List.length_map, sizeLine_eq]; omega) ⟨rfl, ?_⟩) (fun f s' hf => ?_) fun _ _ e => e
    · have out1 := PySem.W.sortVals_data (R := RowAt L) false e0 erS hal
      rw [dataLe_tupI] at out1
      obtain ⟨c, hc⟩ := sortedHeap_at (vs := L1.map fun q => Value.ref q.1) (out := (PySem.W.sortVals _ false (L1.map fun q => Value.ref q.1) (L1.map fun q => Value.ref q.1)).toArray) hoL
      refine hQ _ s1.heap.objs.size _ c (L1.map fun q : Addr × List Int => q.2) (fun b u e => ?_) g1 o1 hz hc hbs out1
      have q := k1 b u e
      have hlt := Heap.lt_size q
      show (sortedHeap _ s1.heap.objs.size _ _).get? b = some u
      rw [sortedHeap_old (Nat.ne_of_lt hlt) (by rw [size_push']; exact Nat.lt_succ_of_lt hlt)]
      exact Heap.get?_push_of_some _ q
    · obtain ⟨rfl, hq⟩ := hf
      exact ⟨_, rfl, wpAny_pure ⟨_, rfl, hq⟩⟩
end
end Pi

/-! Pi 8d2: sorted(set(..)) of tuples, as an expression. -/
namespace Pi
open PySem PySem.Spec PyProof.Rows L2
/-! ### as an expression -/
def rowsV : List PV → Option (List (List Int))
  | [] => some []
  | .tup l :: r => (intsOf l).bind fun ns => (rowsV r).map (ns :: ·)
  | _ :: _ => none
theorem rowsV_map : ∀ {l : List PV} {rs : List (List Int)}, rowsV l = some rs → l = rs.map tupI
  | [], _, e => by cases e; rfl
  | p :: l, rs, e => by
    cases p <;> first | (cases e; done) | skip
    rename_i k
    obtain ⟨ns, e1, e2⟩ := Option.bind_eq_some_iff.mp (show (intsOf k).bind _ = some rs from e)
    obtain ⟨r, e3, rfl⟩ := Option.map_eq_some_iff.mp e2
    rw [intsOf_map e1, rowsV_map e3]
    rfl
theorem rowsV_tupI : ∀ rs : List (List Int), rowsV (rs.map tupI) = some rs
  | [] => rfl
  | r :: rs => by
    show (intsOf (r.map .int)).bind _ = _
    rw [intsOf_ints, Option.bind_some, rowsV_tupI rs]
    rfl
/-- sorted(set(xs)) of a list or a tuple of tuples of ints -/
def stL (l : List PV) : Option PV := (rowsV l).bind fun rs => if rs.length < 64 then some (.lst ((sortR (ddR rs)).map tupI)) else none
def stV' : PV → Option PV
  | .lst l => stL l
  | .tup l => stL l
  | _ => none
/-- sorted(set(..)), of a tuple of ints or of a list of tuples of ints -/
def ssW (p : PV) : Option PV := match p with
  | .tup l => match ssV (.tup l) with
    | some r => some r
    | none => stV' (.tup l)
  | p => stV' p
def cSw (f : Cl) : Cl := fun ρ => (f ρ).bind ssW
theorem reps_rows {K : PySem.W.Frag} {F : Hp} : ∀ {rs : List (List Int)} {xs : List V}, Reps K F (rs.map tupI) xs → ∃ ks : List (Addr × List Int), xs = ks.map (fun p => V.ref p.1) ∧ rs = ks.map (·.2) ∧ ∀ p ∈ ks, Tp F p.1 (p.2.map V.int)
  | [], _, h => by cases h; exact ⟨[], rfl, rfl, fun p h => by cases h⟩
  | r :: rs, _, h => by
    cases h with
    | cons h1 h2 =>
      obtain ⟨ks, e1, e2, e3⟩ := reps_rows h2
      cases h1 with
      | tup ha ra =>
        rw [ra.vals] at ha
        exact ⟨(_, r) :: ks, by rw [e1]; rfl, by rw [e2]; rfl, fun p hp => (List.mem_cons.mp hp).elim (fun z => z ▸ ha) (e3 p)⟩
theorem back_rows {K : PySem.W.Frag} {F : Hp} {L : List (Addr × List Int)} (hL : ∀ p ∈ L, Tp F p.1 (p.2.map V.int)) : ∀ {out : List Value} {rs : List (List Int)}, PySem.W.EachIs (RowAt L) out rs → ∃ xs, Vals xs out ∧ Reps K F (rs.map tupI) xs
  | _, _, .nil => ⟨[], .nil, .nil⟩
  | _, _, .cons ⟨q, hq, e1, e2⟩ t => by
    obtain ⟨xs, h1, h2⟩ := back_rows hL t
    subst e1 e2
    exact ⟨.ref q.1 :: xs, .cons rfl h1, .cons (.tup (hL q hq) (.of_ints _)) h2⟩
theorem call_set_rows {P : Program} {w : World} {A : Around} {E : Value → Shared → Prop} {s : Shared} {l : Addr} {items : Array Value} (ks : List (Addr × List Int)) {Q : Value → Shared → Prop} (hh : A.handled = none) (hl : s.heap.IsList l items ∨ s.heap.IsTuple l items) (hit : items.toList = ks.map fun p => Value.ref p.1)
    (hk : ∀ p ∈ ks, IsT P w s.heap p.2 p.1) (hfew : ks.length < 64) (hu : A.units + 3 < cLine)
    (h : ∀ (h' : Heap) (tk : Nat) L es ep t, SetTR P w h' s.heap.objs.size L es ep t → Got ks ks.length L → (∀ b o, s.heap.get? b = some o → h'.get? b = some o) → Q (.ref s.heap.objs.size) { s with heap := h', toks := tk }) :
    wpAny (model P w) A (call (.type "set") [.ref l]) Q E s := hl.elim (fun hl => call_set_tups ks hh hl hit hk hfew hu h) fun hl => set_tuple_tups ks hh hl hit hk hfew hu h
theorem s_sst {X : Cx} {a : Expr} {ρ : En} {v r : PV} {p2 q p pos : Pos} (hg : Gl X "sorted") (hm : X.mg "sorted" = none) (hg2 : Gl X "set") (hm2 : X.mg "set" = none) (ha : PE X a (tBw X.K ρ v)) (hn : notStar a = true) (hc : X.calm = true) (hu : X.A.units + 100 < cLine) (hv : stV' v = some r) :
    PE X (.Call (.Name "sorted" p) [.Call (.Name "set" p2) [a] [] q] [] pos) (tFr X.K ρ r) := by
  refine ⟨fun pins s σ H Q I ⟨B, F, st, k⟩ => ?_⟩
  have na : starEach [a] X.env = (false, eval a X.env) :: starEach [] X.env := star_cons hn _
  refine Call_ (ld_blt (u := .builtin "sorted") I hg hm (by decide +kernel) ?_)
  refine PyProof.Rows.callWith_builtin1 (PyProof.Rows.args_cons ?_ rfl) rfl rfl
  refine Call_ (ld_blt I hg2 hm2 boot_set ?_)
  refine PyProof.Rows.callWith_type1 (PyProof.Rows.args_cons (thn (ha.run pins s σ H (fun x H1 => ∃ F1, Stp F H F1 H1 ∧ RelB X.K F1 H1 v x) I ⟨B, F, st, fun v' H' F' s1 rb => ⟨F', s1, rb⟩⟩) fun u s1 ⟨x, H1, I1, r1, q1⟩ => PyProof.Rows.args_nil ?_) na) na rfl
  obtain ⟨F1, s2, rb⟩ := q1
  obtain ⟨l, hl, hv⟩ : ∃ l, (v = .lst l ∨ v = .tup l) ∧ stL l = some r := by
    cases v <;> first | (cases hv; done) | skip
    · exact ⟨_, .inr rfl, hv⟩
    · exact ⟨_, .inl rfl, hv⟩
  unfold stL at hv
  obtain ⟨rs, e1, e2⟩ := Option.bind_eq_some_iff.mp hv
  split at e2
  · rename_i h64
    cases e2
    rw [rowsV_map e1] at hl
    have hsrc : ∃ (a0 : Addr) (its : Array Value) (ks : List (Addr × List Int)), u = .ref a0 ∧ (s1.heap.IsList a0 its ∨ s1.heap.IsTuple a0 its) ∧ its.toList = ks.map (fun p => Value.ref p.1) ∧ rs = ks.map (·.2) ∧ ∀ p ∈ ks, Tp F1 p.1 (p.2.map V.int) := by
      rcases hl with rfl | rfl
      · obtain ⟨a0, xs, rfl, ht, rt⟩ := rb.lst s2.fh
        cases r1
        obtain ⟨ks, ex, er, hks⟩ := reps_rows rt
        obtain ⟨its, rv, pl, hz⟩ := I1.list (.of ht)
        rw [ex] at rv
        exact ⟨_, _, ks, rfl, .inl pl.isList, by simpa using refs_of_vals rv, er, hks⟩
      · obtain ⟨a0, xs, rfl, ht, rt⟩ := rb.tup s2.fh
        cases r1
        obtain ⟨ks, ex, er, hks⟩ := reps_rows rt
        obtain ⟨its, rv, pl, hz⟩ := I1.tuple ht.sq
        rw [ex] at rv
        exact ⟨_, _, ks, rfl, .inr pl, by simpa using refs_of_vals rv, er, hks⟩
    obtain ⟨a0, its, ks, rfl, hor, hits, er, hks⟩ := hsrc
    have hlk : ks.length < 64 := by rw [er, List.length_map] at h64; exact h64
    have hksH : ∀ p ∈ ks, SqT X.K H1 p.1 (p.2.map V.int) := fun p hp => sqT_mono s2.fh (hks p hp)
    refine call_set_rows (P := X.prog) (w := X.w) ks (I1.ok.hd hc) hor hits (fun p hp => I1.isT (hksH p hp)) hlk (by omega) fun h' tk L es ep t R g hk => ?_
    refine PyProof.Rows.args_nil ?_
    have I2 : Inv X pins σ H1 { s1 with heap := h', toks := tk } := I1.kept fun b o e => hk b o e
    refine sorted_rows R (I2.ok.hd hc) (by omega) fun s' p0 out c bs kk gg o hp hgt hbs hout => ?_
    have hLk : ∀ p ∈ L, p ∈ ks := fun p hp => List.mem_of_mem_take (g.sub p hp)
    have hL1 : ∀ p ∈ L, Tp F1 p.1 (p.2.map V.int) := fun p hp => hks p (hLk p hp)
    have esr : sortR bs = sortR (ddR rs) := by
      refine (sortR_same ?_).symm
      refine hbs.trans ((List.perm_ext_iff_of_nodup R.nd (ddR_nd rs)).mpr fun x => ?_)
      rw [ddR_mem, er]
      constructor
      · intro hx
        obtain ⟨p, hp, rfl⟩ := List.mem_map.mp hx
        exact List.mem_map.mpr ⟨p, hLk p hp, rfl⟩
      · intro hx
        obtain ⟨p, hp, rfl⟩ := List.mem_map.mp hx
        exact g.all p (by rw [List.take_length]; exact hp)
    rw [esr] at hout
    obtain ⟨xs', hv', hr'⟩ := back_rows (K := X.K) hL1 hout
    have hlen : xs'.length ≤ sizeLine := by
      have h1 := hr'.length
      rw [List.length_map, (sortR_perm (ddR rs)).length_eq] at h1
      have h2 := ddR_len rs
      rw [sizeLine_eq]
      omega
    have hnn : H1 p0 = none := I2.hok.fresh hp
    have J : Inv X pins σ (upd H1 p0 (.lst xs')) s' := I2.call' (ch := []) o (Un.laid kk hp hnn) (I2.hok.laid kk hp ⟨hlen, out, c, hv', hgt⟩) (by rw [gg]; exact I2.bare) (fun _ z => nomatch z)
    exact ⟨.ref p0, _, J, rfl, k _ _ _ (s2.trans (.new' s2.fh hnn)) ((frL s2.fh hnn hr').mono s2.hh)⟩
  · cases e2
theorem s_ssw {X : Cx} {a : Expr} {ρ : En} {v r : PV} {p2 q p pos : Pos} (hg : Gl X "sorted") (hm : X.mg "sorted" = none) (hg2 : Gl X "set") (hm2 : X.mg "set" = none) (ha : PE X a (tBw X.K ρ v)) (hn : notStar a = true) (hc : X.calm = true) (hu : X.A.units + 100 < cLine) (hv : ssW v = some r) :
    PE X (.Call (.Name "sorted" p) [.Call (.Name "set" p2) [a] [] q] [] pos) (tFr X.K ρ r) := by
  unfold ssW at hv
  split at hv
  · split at hv
    · rename_i e
      cases hv
      exact s_ss hg hm hg2 hm2 ha hn hc e
    · exact s_sst hg hm hg2 hm2 ha hn hc hu hv
  · exact s_sst hg hm hg2 hm2 ha hn hc hu hv
end Pi

/-! Pi 8e: comprehensions with two clauses. -/
namespace Pi
open PySem PySem.Spec PyProof.Rows L2
/-- the turns of a comprehension, behind a list that stands already -/
theorem lc_walkG {K : PySem.W.Frag} {g : Tg} {gv : List Nat} {t : Ct} {f : Cl} {ρ : En} {σ : L2.St} {F1 H1 : Hp} {B : Bs} {J : It} {items : List PV} {vs : List Nat} {l l0 qs0 : List PV} {acc0 : List V} {D : Addr} {Qd : Hp → Prop}
    (st : StR K B ρ σ H1 F1) (o : ItOk K H1 F1 J items) (hD : H1 D = none) (hv : ∀ i ∈ gv, i ∈ vs) (hl : cLoop g t f (wipeE ρ vs) items = some l0) (h0 : Reps K F1 qs0 acc0) (el0 : l = qs0 ++ l0) (hz : l.length ≤ sizeLine)
    (fin : ∀ H' F' acc, Stp F1 H1 F' H' → F' D = none → H' D = some (.lst acc) → Reps K F' l acc → Qd H') :
    ∃ W : Nat → Nat → Hp → Prop, (∃ m, W 0 m (upd H1 D (.lst acc0))) ∧ ∀ i m H, W i m H →
      (J.stop i H ∧ Qd H) ∨ (J.go i H ∧ ∃ Nx : Hp → Prop, (∀ H', Nx H' → ∃ m', m' < m ∧ W (i + 1) m' H') ∧ ∀ x H', J.yld i H x H' → uG K g gv x (wipe σ vs) H' fun σ2 H2 => wipe σ2 vs = wipe σ vs ∧ uT K t σ2 H2 fun b H3 =>
        if b = true then uE K f σ2 H3 fun y H4 => ∃ acc, H4 D = some (.lst acc) ∧ acc.length < sizeLine ∧ Nx (upd H4 D (.lst (acc ++ [y]))) else Nx H3) := by
  let Iv : Nat → List PV → Hp → Prop := fun i rest Hc => ∃ Fc acc qs, Stp F1 H1 Fc Hc ∧ Fc D = none ∧ Hc D = some (.lst acc) ∧ Reps K Fc qs acc ∧ l = qs ++ rest ∧ cLoop g t f (wipeE ρ vs) (items.drop i) = some rest
  refine ⟨fun i m Hc => m = items.length - i ∧ i ≤ items.length ∧ ∃ rest, Iv i rest Hc, ⟨items.length, by simp, Nat.zero_le _, l0, F1, acc0, qs0, .new' st.fh hD, st.fh.free hD, upd_same, h0, el0, by rw [List.drop_zero]; exact hl⟩, ?_⟩
  rintro i m Hc ⟨rfl, hi, rest, Fc, acc, qs, sc, hf, hd, ra, el, hr⟩
  by_cases hlt : i < items.length
  · refine .inr ⟨o.go i Hc Fc sc.hh sc.ff sc.fh hlt, fun H' => ∃ rest, Iv (i + 1) rest H', fun H' h => ⟨items.length - (i + 1), by omega, rfl, hlt, h⟩, fun x H' y => ?_⟩
    obtain ⟨p, F', ep, sp, rp⟩ := o.yld i Hc Fc x H' sc.hh sc.ff sc.fh hlt y
    have ed : items.drop i = p :: items.drop (i + 1) := by
      rw [List.drop_eq_getElem_cons hlt]
      rw [List.getElem?_eq_getElem hlt] at ep
      cases ep
      rfl
    rw [ed] at hr
    obtain ⟨ρ1, e1, hr⟩ := Option.bind_eq_some_iff.mp hr
    obtain ⟨b, e2, hr⟩ := Option.bind_eq_some_iff.mp hr
    have st0 : StR K B (wipeE ρ vs) (wipe σ vs) H' F' := ((st.step sc).step sp).wipe vs
    refine ⟨B, F', wipeE ρ vs, p, ρ1, st0, rp, e1, fun σ2 st2 ag => ?_⟩
    refine ⟨?_, ρ1, b, e2, B, F', st2, fun H3 F3 s3 => ?_⟩
    · rw [ag.wipe hv]
      exact wipe_agree (wipe_length _ _) fun j hj => by rw [wipe_out hj]
    · have D3 : Stp Fc Hc F3 H3 := sp.trans s3
      have hd3 : H3 D = some (.lst acc) := D3.hh _ _ hd
      have hf3 : F3 D = none := by
        cases q : F3 D with
        | none => rfl
        | some u =>
          rcases D3.nw D u q with z | z
          · rw [hf] at z; cases z
          · rw [hd] at z; cases z
      cases b with
      | false =>
        rw [if_neg Bool.false_ne_true] at hr
        dsimp only
        rw [if_neg Bool.false_ne_true]
        exact ⟨rest, F3, acc, qs, sc.trans D3, hf3, hd3, ra.mono D3.ff, el, hr⟩
      | true =>
        rw [if_pos rfl] at hr
        dsimp only
        rw [if_pos rfl]
        obtain ⟨q, e3, hr⟩ := Option.bind_eq_some_iff.mp hr
        obtain ⟨rest', e4, rfl⟩ := Option.map_eq_some_iff.mp hr
        refine ⟨ρ1, q, e3, B, F3, st2.step s3, fun y H4 F4 s4 ry => ?_⟩
        have hd4 : H4 D = some (.lst acc) := s4.hh _ _ hd3
        have hf4 : F4 D = none := by
          cases q : F4 D with
          | none => rfl
          | some u =>
            rcases s4.nw D u q with z | z
            · rw [hf3] at z; cases z
            · rw [hd3] at z; cases z
        have hacc : acc.length < sizeLine := by
          have h1 := ra.length
          have h2 : l.length = qs.length + (rest'.length + 1) := by rw [el, List.length_append, List.length_cons]
          omega
        have s04 : Stp F1 H1 F4 H4 := (sc.trans D3).trans s4
        refine ⟨acc, hd4, hacc, rest', F4, acc ++ [y], qs ++ [q], ⟨fun b u e => ?_, s04.ff, fun b u e => ?_, s04.nw⟩, hf4, upd_same, ((ra.mono D3.ff).mono s4.ff).append (.one ry), by rw [el, List.append_assoc]; rfl, e4⟩
        · rw [upd_ne (ne_of_none e hD)]
          exact s04.hh b u e
        · rw [upd_ne (ne_of_none e hf4)]
          exact s04.fh b u e
  · have e : i = items.length := by omega
    subst e
    rw [List.drop_length] at hr
    cases hr
    rw [List.append_nil] at el
    subst el
    exact .inl ⟨o.stop _ Hc Fc sc.hh sc.ff sc.fh (Nat.le_refl _), fin Hc Fc acc sc hf hd ra⟩
/-! ### a place left out of sight -/
def NoOwn (D : Addr) (ρ : En) (σ : L2.St) : Prop := ∀ (i : Nat) p a, ρ[i]? = some (.own p) → σ[i]? = some (some (.ref a)) → a ≠ D
theorem StR.on {K : PySem.W.Frag} {B : Bs} {ρ : En} {σ : L2.St} {H F : Hp} {D : Addr} {u : HO} (s : StR K B ρ σ H F) (hB : B.H D = none) (hF : F D = none) (hD : H D = some u) (n : NoOwn D ρ σ) : StR K ⟨upd B.H D u, B.F⟩ ρ σ H F where
  len := s.len
  fh := s.fh
  hb := fun b o e0 => by
    have e : upd B.H D u b = some o := e0
    by_cases h : b = D
    · subst h
      rw [upd_same] at e
      cases e
      exact hD
    · rw [upd_ne h] at e
      exact s.hb b o e
  fb := s.fb
  fn := fun a o e => by
    have h : a ≠ D := fun z => by rw [z, hF] at e; cases e
    rcases s.fn a o e with h1 | h1
    · exact .inl h1
    · exact .inr (by show upd B.H D u a = none; rw [upd_ne h]; exact h1)
  sl := s.sl
  ob := fun i p a e1 e2 => by
    show upd B.H D u a = none
    rw [upd_ne (n i p a e1 e2)]
    exact s.ob i p a e1 e2
  dj := s.dj
/-- the heap without D -/
def hid (H : Hp) (D : Addr) : Hp := fun b => if b = D then none else H b
theorem hid_ne {H : Hp} {D b : Addr} (h : b ≠ D) : hid H D b = H b := if_neg h
theorem hid_at {H : Hp} {D : Addr} : hid H D D = none := if_pos rfl
theorem hid_upd {H : Hp} {D : Addr} {o : HO} (h : H D = some o) : upd (hid H D) D o = H := by
  funext b
  by_cases e : b = D
  · subst e
    rw [upd_same, h]
  · rw [upd_ne e, hid_ne e]
theorem StR.off {K : PySem.W.Frag} {BH BF : Hp} {ρ : En} {σ : L2.St} {H F : Hp} {D : Addr} {u : HO} (s : StR K ⟨upd BH D u, BF⟩ ρ σ H F) (hB : BH D = none) (hF : F D = none) : StR K ⟨BH, BF⟩ ρ σ (hid H D) F where
  len := s.len
  fh := fun b o e => by
    have h : b ≠ D := fun z => by rw [z, hF] at e; cases e
    rw [hid_ne h]
    exact s.fh b o e
  hb := fun b o e => by
    have h : b ≠ D := fun z => by subst z; rw [show BH b = some o from e] at hB; cases hB
    rw [hid_ne h]
    exact s.hb b o (by show upd BH D u b = some o; rw [upd_ne h]; exact e)
  fb := s.fb
  fn := fun a o e => by
    have h : a ≠ D := fun z => by rw [z, hF] at e; cases e
    rcases s.fn a o e with h1 | h1
    · exact .inl h1
    · exact .inr (by
        have h2 : upd BH D u a = none := h1
        rw [upd_ne h] at h2
        exact h2)
  sl := fun i x e => by
    have q := s.sl i x e
    cases x with
    | un => trivial
    | val p => exact q
    | own p =>
      obtain ⟨a, e1, nf, o, ho, ro⟩ := q
      have h2 : upd BH D u a = none := s.ob i p a e e1
      have h : a ≠ D := fun z => by rw [z, upd_same] at h2; cases h2
      exact ⟨a, e1, nf, o, by rw [hid_ne h]; exact ho, ro⟩
  ob := fun i p a e1 e2 => by
    have h2 : upd BH D u a = none := s.ob i p a e1 e2
    have h : a ≠ D := fun z => by rw [z, upd_same] at h2; cases h2
    rw [upd_ne h] at h2
    exact h2
  dj := s.dj
theorem NoOwn.wipe {D : Addr} {ρ : En} {σ : L2.St} (n : NoOwn D ρ σ) : ∀ vs : List Nat, NoOwn D (wipeE ρ vs) (L2.wipe σ vs)
  | [] => n
  | v :: vs => fun i p a e1 e2 => by
    have ih := NoOwn.wipe n vs
    have e1 : ((wipeE ρ vs).set v .un)[i]? = some (.own p) := e1
    have e2 : ((L2.wipe σ vs).set v none)[i]? = some (some (.ref a)) := e2
    by_cases h : v = i
    · subst h
      by_cases hl : v < (wipeE ρ vs).length
      · rw [List.getElem?_set_self hl] at e1
        cases e1
      · rw [List.getElem?_eq_none (by rw [List.length_set]; omega)] at e1
        cases e1
    · rw [List.getElem?_set_ne h] at e1 e2
      exact ih i p a e1 e2
theorem StR.noOwn {K : PySem.W.Frag} {B : Bs} {ρ : En} {σ : L2.St} {H F : Hp} {D : Addr} (s : StR K B ρ σ H F) (hD : H D = none) : NoOwn D ρ σ := fun i p a e1 e2 z => by
  obtain ⟨a', e3, nf, o, ho, ro⟩ := s.sl i _ e1
  rw [e2] at e3
  cases e3
  subst z
  rw [hD] at ho
  cases ho
theorem ItOk.wide {K : PySem.W.Frag} {Hx Hy F0 : Hp} {J : It} {items : List PV} (o : ItOk K Hx F0 J items) (h : Same Hx Hy) : ItOk K Hy F0 J items :=
  ⟨fun i Hc Fc s1 s2 s3 => o.go i Hc Fc (h.trans s1) s2 s3, fun i Hc Fc s1 s2 s3 => o.stop i Hc Fc (h.trans s1) s2 s3, fun i Hc Fc x H' s1 s2 s3 => o.yld i Hc Fc x H' (h.trans s1) s2 s3⟩
/-! ### two clauses -/
def cLoop2 (g : Tg) (t : Ct) (vs1 : List Nat) (it1 : Ci) (g1 : Tg) (t1 : Ct) (f : Cl) (ρ : En) : List PV → Option (List PV)
  | [] => some []
  | p :: l => (g p ρ).bind fun ρ1 => (t ρ1).bind fun b => if b then (it1 ρ1).bind fun items1 => (cLoop g1 t1 f (wipeE ρ1 vs1) items1).bind fun l1 => (cLoop2 g t vs1 it1 g1 t1 f ρ l).map (l1 ++ ·) else cLoop2 g t vs1 it1 g1 t1 f ρ l
def cComp2 (vs : List Nat) (g : Tg) (it : Ci) (t : Ct) (vs1 : List Nat) (g1 : Tg) (it1 : Ci) (t1 : Ct) (f : Cl) : Cl := fun ρ => (it ρ).bind fun items => (cLoop2 g t vs1 it1 g1 t1 f (wipeE ρ vs) items).bind fun l => if seqOk l.length then some (.lst l) else none
theorem lc2_walk {K : PySem.W.Frag} {g g1 : Tg} {gv vs1 : List Nat} {t t1 : Ct} {f : Cl} {it1 : Ci} {ρ : En} {σ : L2.St} {H F H1 F1 : Hp} {B : Bs} {J : It} {items : List PV} {vs : List Nat} {l : List PV} {D : Addr} {Qd : Hp → Prop} {wi1 : TI}
    (hw : ∀ σ2 H3 R, (∃ ρ1 items1 B F, it1 ρ1 = some items1 ∧ StR K B ρ1 σ2 H3 F ∧ ∀ J1 H' F', Stp F H3 F' H' → ItOk K F' F' J1 items1 → R J1 H') → wi1 σ2 H3 R)
    (st : StR K B ρ σ H F) (s1 : Stp F H F1 H1) (o : ItOk K H1 F1 J items) (hD : H1 D = none) (hv : ∀ i ∈ gv, i ∈ vs) (hl : cLoop2 g t vs1 it1 g1 t1 f (wipeE ρ vs) items = some l) (hz : l.length ≤ sizeLine)
    (fin : ∀ H' F', Stp F1 H1 F' H' → RelFr K H1 F' H' (.lst l) (.ref D) → Qd H') :
    ∃ W : Nat → Nat → Hp → Prop, (∃ m, W 0 m (upd H1 D (.lst []))) ∧ ∀ i m H, W i m H →
      (J.stop i H ∧ Qd H) ∨ (J.go i H ∧ ∃ Nx : Hp → Prop, (∀ H', Nx H' → ∃ m', m' < m ∧ W (i + 1) m' H') ∧ ∀ x H', J.yld i H x H' → uG K g gv x (wipe σ vs) H' fun σ2 H2 => wipe σ2 vs = wipe σ vs ∧ uT K t σ2 H2 fun b H3 =>
        if b = true then wi1 σ2 H3 fun J1 H4 => ∃ W1 : Nat → Nat → Hp → Prop, (∃ m, W1 0 m H4) ∧ ∀ j k H, W1 j k H →
          (J1.stop j H ∧ Nx H) ∨ (J1.go j H ∧ ∃ Nx1 : Hp → Prop, (∀ H', Nx1 H' → ∃ k', k' < k ∧ W1 (j + 1) k' H') ∧ ∀ x H', J1.yld j H x H' → uG K g1 vs1 x (wipe σ2 vs1) H' fun σ3 H5 => wipe σ3 vs1 = wipe σ2 vs1 ∧ uT K t1 σ3 H5 fun b H6 =>
            if b = true then uE K f σ3 H6 fun y H7 => ∃ acc, H7 D = some (.lst acc) ∧ acc.length < sizeLine ∧ Nx1 (upd H7 D (.lst (acc ++ [y]))) else Nx1 H6)
        else Nx H3) := by
  let Iv : Nat → List PV → Hp → Prop := fun i rest Hc => ∃ Fc acc qs, Stp F1 H1 Fc Hc ∧ Fc D = none ∧ Hc D = some (.lst acc) ∧ Reps K Fc qs acc ∧ l = qs ++ rest ∧ cLoop2 g t vs1 it1 g1 t1 f (wipeE ρ vs) (items.drop i) = some rest
  refine ⟨fun i m Hc => m = items.length - i ∧ i ≤ items.length ∧ ∃ rest, Iv i rest Hc, ⟨items.length, by simp, Nat.zero_le _, l, F1, [], [], .new' s1.fh hD, s1.fh.free hD, upd_same, .nil, rfl, by rw [List.drop_zero]; exact hl⟩, ?_⟩
  rintro i m Hc ⟨rfl, hi, rest, Fc, acc, qs, sc, hf, hd, ra, el, hr⟩
  by_cases hlt : i < items.length
  · refine .inr ⟨o.go i Hc Fc sc.hh sc.ff sc.fh hlt, fun H' => ∃ rest, Iv (i + 1) rest H', fun H' h => ⟨items.length - (i + 1), by omega, rfl, hlt, h⟩, fun x H' y => ?_⟩
    obtain ⟨p, F', ep, sp, rp⟩ := o.yld i Hc Fc x H' sc.hh sc.ff sc.fh hlt y
    have ed : items.drop i = p :: items.drop (i + 1) := by
      rw [List.drop_eq_getElem_cons hlt]
      rw [List.getElem?_eq_getElem hlt] at ep
      cases ep
      rfl
    rw [ed] at hr
    obtain ⟨ρ1, e1, hr⟩ := Option.bind_eq_some_iff.mp hr
    obtain ⟨b, e2, hr⟩ := Option.bind_eq_some_iff.mp hr
    have stA : StR K B ρ σ H1 F1 := st.step s1
    have n0 := (stA.noOwn hD).wipe vs
    have hBD : B.H D = none := by
      cases q : B.H D with
      | none => rfl
      | some u => rw [stA.hb _ _ q] at hD; cases hD
    have hf' : F' D = none := by
      cases q : F' D with
      | none => rfl
      | some u =>
        rcases sp.nw D u q with z | z
        · rw [hf] at z; cases z
        · rw [hd] at z; cases z
    have hd' : H' D = some (.lst acc) := sp.hh _ _ hd
    have st0 : StR K ⟨upd B.H D (.lst acc), B.F⟩ (wipeE ρ vs) (wipe σ vs) H' F' := (((stA.step sc).step sp).wipe vs).on hBD hf' hd' n0
    refine ⟨_, F', wipeE ρ vs, p, ρ1, st0, rp, e1, fun σ2 st2 ag => ?_⟩
    refine ⟨?_, ρ1, b, e2, _, F', st2, fun H3 F3 s3 => ?_⟩
    · rw [ag.wipe hv]
      exact wipe_agree (wipe_length _ _) fun j hj => by rw [wipe_out hj]
    · have D3 : Stp Fc Hc F3 H3 := sp.trans s3
      have hd3 : H3 D = some (.lst acc) := D3.hh _ _ hd
      have hf3 : F3 D = none := by
        cases q : F3 D with
        | none => rfl
        | some u =>
          rcases D3.nw D u q with z | z
          · rw [hf] at z; cases z
          · rw [hd] at z; cases z
      cases b with
      | false =>
        rw [if_neg Bool.false_ne_true] at hr
        dsimp only
        rw [if_neg Bool.false_ne_true]
        exact ⟨rest, F3, acc, qs, sc.trans D3, hf3, hd3, ra.mono D3.ff, el, hr⟩
      | true =>
        rw [if_pos rfl] at hr
        dsimp only
        rw [if_pos rfl]
        obtain ⟨items1, e3, hr⟩ := Option.bind_eq_some_iff.mp hr
        obtain ⟨l1, e4, hr⟩ := Option.bind_eq_some_iff.mp hr
        obtain ⟨rest', e5, rfl⟩ := Option.map_eq_some_iff.mp hr
        refine hw σ2 H3 _ ⟨ρ1, items1, _, F3, e3, st2.step s3, fun J1 H4 F4 s4 o1 => ?_⟩
        have hd4 : H4 D = some (.lst acc) := s4.hh _ _ hd3
        have hf4 : F4 D = none := by
          cases q : F4 D with
          | none => rfl
          | some u =>
            rcases s4.nw D u q with z | z
            · rw [hf3] at z; cases z
            · rw [hd3] at z; cases z
        have stI : StR K B ρ1 σ2 (hid H4 D) F4 := ((st2.step s3).step s4).off hBD hf4
        have s04 : Stp F1 H1 F4 H4 := (sc.trans D3).trans s4
        have q := lc_walkG (Qd := fun H' => ∃ rest, Iv (i + 1) rest H') (l := qs ++ l1) (D := D) stI (o1.wide stI.fh) hid_at (fun i hi => hi) e4 (((ra.mono D3.ff).mono s4.ff)) rfl (by
          have h2 : l.length = qs.length + (l1.length + rest'.length) := by rw [el, List.length_append, List.length_append]
          rw [List.length_append]
          omega) fun H5 F5 acc5 s5 hf5 hd5 ra5 => ⟨rest', F5, acc5, qs ++ l1, ⟨fun b u e => ?_, s04.ff.trans s5.ff, s5.fh, fun b u e => ?_⟩, hf5, hd5, ra5, by rw [el, List.append_assoc], e5⟩
        · rw [hid_upd hd4] at q
          exact q
        · have hb : b ≠ D := ne_of_none e hD
          exact s5.hh b u (by rw [hid_ne hb]; exact s04.hh b u e)
        · have hb : b ≠ D := fun z => by rw [z, hf5] at e; cases e
          rcases s5.nw b u e with z | z
          · exact s04.nw b u z
          · rw [hid_ne hb] at z
            refine .inr ?_
            cases q2 : H1 b with
            | none => rfl
            | some o2 => rw [s04.hh b o2 q2] at z; cases z
  · have e : i = items.length := by omega
    subst e
    rw [List.drop_length] at hr
    cases hr
    rw [List.append_nil] at el
    subst el
    exact .inl ⟨o.stop _ Hc Fc sc.hh sc.ff sc.fh (Nat.le_refl _), fin Hc Fc sc ⟨D, rfl, hD, hf, _, hd, ra⟩⟩
section
variable {X : Cx} {elt tg iter tg1 iter1 : Expr} {ifs ifs1 : List Expr} {scope : Scope} {own : List (Str × Nat)} {ρ : En} {items l : List PV} {gv vs1 : List Nat} {g g1 : Tg} {t t1 : Ct} {f : Cl} {it1 : Ci} {pos : Pos}
/-- the second source, frozen -/
def wI1 (K : PySem.W.Frag) (it1 : Ci) : TI := fun σ H R => ∃ ρ items, it1 ρ = some items ∧ tIt K ρ items σ H R
theorem wI1_of {K : PySem.W.Frag} {it1 : Ci} (σ2 : L2.St) (H3 : Hp) (R : It → Hp → Prop) (h : ∃ ρ1 items1 B F, it1 ρ1 = some items1 ∧ StR K B ρ1 σ2 H3 F ∧ ∀ J1 H' F', Stp F H3 F' H' → ItOk K F' F' J1 items1 → R J1 H') : wI1 K it1 σ2 H3 R := by
  obtain ⟨ρ1, items1, B, F, e, st, k⟩ := h
  exact ⟨ρ1, items1, e, B, F, st, k⟩
theorem mkI1 {X : Cx} {tg e : Expr} {it : Ci} (h : ∀ ρ items, it ρ = some items → PI X tg e (tIt X.K ρ items)) : PI X tg e (wI1 X.K it) := ⟨fun pins s σ H R I ⟨ρ, items, e, w⟩ => (h ρ items e).run pins s σ H R I w⟩
theorem s_comp2 (hc : X.calm = true) (hN : X.N.Nodup) (ok : BlkOk X.N X.env.scope scope own) (hv : ∀ i ∈ gv, i ∈ own.map (·.2)) (hv1 : ∀ i ∈ vs1, i ∈ own.map (·.2))
    (hi : PI X tg iter (tItB X.K ρ items)) (hg : ∀ (s : Shared) (H : Hp) (C : Addr) (cl : List (Str × Addr)) (fp : List Addr), PG (X.blk s H scope (compEnvC scope cl C X.env) fp) tg (uG X.K g gv))
    (ht : ∀ (s : Shared) (H : Hp) (C : Addr) (cl : List (Str × Addr)) (fp : List Addr), PTs (X.blk s H scope (compEnvC scope cl C X.env) fp) ifs (uT X.K t))
    (hi1 : ∀ (s : Shared) (H : Hp) (C : Addr) (cl : List (Str × Addr)) (fp : List Addr), PI (X.blk s H scope (compEnvC scope cl C X.env) fp) tg1 iter1 (wI1 X.K it1)) (hg1 : ∀ (s : Shared) (H : Hp) (C : Addr) (cl : List (Str × Addr)) (fp : List Addr), PG (X.blk s H scope (compEnvC scope cl C X.env) fp) tg1 (uG X.K g1 vs1))
    (ht1 : ∀ (s : Shared) (H : Hp) (C : Addr) (cl : List (Str × Addr)) (fp : List Addr), PTs (X.blk s H scope (compEnvC scope cl C X.env) fp) ifs1 (uT X.K t1))
    (he : ∀ (s : Shared) (H : Hp) (C : Addr) (cl : List (Str × Addr)) (fp : List Addr), PE (X.blk s H scope (compEnvC scope cl C X.env) fp) elt (uE X.K f)) (ns : noSet iter = true) (ns1 : noSet iter1 = true)
    (hl : cLoop2 g t vs1 it1 g1 t1 f (wipeE ρ (own.map (·.2))) items = some l) (hz : seqOk l.length = true) : PE X (.ListComp elt [⟨tg, iter, ifs, 0⟩, ⟨tg1, iter1, ifs1, 0⟩] scope pos) (tFr X.K ρ (.lst l)) :=
  (pe_lc2 hc hN hi ok hv1 hg ht hi1 hg1 ht1 he (folded_of ns _) (fun env => folded_of ns1 env)).mono fun σ H Q ⟨B, F, st, k⟩ => ⟨B, F, st, fun J H1 F1 s1 o D hD =>
    lc2_walk wI1_of st s1 o hD hv hl (of_decide_eq_true hz) fun H' F' s2 r => k _ _ _ (s1.trans s2) (r.mono s1.hh)⟩
end
end Pi

/-! Pi 8f: enumerate over lists and tuples, zip of two lists or two tuples. -/
namespace Pi
open PySem PySem.Spec PyProof.Rows L2
section
variable {prog : Program} {w : World} {A : Around} {E : Value → Shared → Prop} {s : Shared}
set_option maxHeartbeats 1000000 in
theorem meets_enum1 {v : Value} {o : Obj} {H : Heap → Prop} (B : Begins v o H) :
    Meets (Builtin.«enumerate.__new__» ⟨[.type "enumerate", v], []⟩) (fun _ R s => H s.heap ∧
      R (.ok (.ret (.ref (s.heap.push o).objs.size))) { s with heap := (s.heap.push o).push { cls := .type "enumerate", data := .fields #[.none, .bool false, .ref s.heap.objs.size, rawInt 0, .none, .none] } }) :=
  .of_wp fun prog w A R s h => by
    obtain ⟨hp, g, d, tk, os⟩ := s; obtain ⟨h1, h⟩ := h
    have hsub := sub_enumerate
    have q1 : ∀ {A' : Around} {E : Value → Shared → Prop} {Q : Value → Shared → Prop}, Q (.ref hp.objs.size) ⟨hp.push o, g, d, tk, os⟩ → wpAny (model prog w) A' (pyIter v) Q E ⟨hp, g, d, tk, os⟩ :=
      fun q => B.iter prog w _ _ ⟨hp, g, d, tk, os⟩ _ h1 q
    wp_walk using q1
    refine wpAny_stack_any fun st => wpAny_pure ?_
    split
    · rename_i c _ _ _ _ _
      cases (c == Value.type "enumerate")
      · wp_walk using q1
        exact ⟨_, rfl, h⟩
      · wp_walk using q1
        exact ⟨_, rfl, h⟩
    · wp_walk using q1
      exact ⟨_, rfl, h⟩
theorem enum_begins1 {v : Value} {o : Obj} {H : Heap → Prop} {Q : Value → Shared → Prop} (B : Begins v o H) (h1 : H s.heap)
    (h : ∀ h', IsEnum h' (s.heap.objs.size + 1) s.heap.objs.size 0 .none → h'.get? s.heap.objs.size = some o → h'.objs.size = s.heap.objs.size + 2 →
      (∀ b o, s.heap.get? b = some o → h'.get? b = some o) → Q (.ref (s.heap.objs.size + 1)) { s with heap := h' }) :
    wpAny (model prog w) A (call (.type "enumerate") [v]) Q E s := by
  refine callType_new F.called_enumerate (by decide) (F.typeCall_enumerate_1 _) (F.newCall_enumerate_1 _) (fun obj => F.args_object_init_2 obj _) F.entry_enumerate_new
    (meets_enum1 B) ⟨h1, ?_⟩
  have hz : (s.heap.push o).objs.size = s.heap.objs.size + 1 := Heap.size_push ..
  show _ ∧ _
  rw [hz]
  have he : IsEnum ((s.heap.push o).push { cls := .type "enumerate", data := .fields #[.none, .bool false, .ref s.heap.objs.size, rawInt 0, .none, .none] }) (s.heap.objs.size + 1) s.heap.objs.size 0 .none := by
    have := Heap.get?_push_size (s.heap.push o) (o := { cls := .type "enumerate", data := .fields #[.none, .bool false, .ref s.heap.objs.size, rawInt 0, .none, .none] }) rfl
    rw [hz] at this; exact this
  refine ⟨⟨_, he, rfl⟩, h _ he (Heap.get?_push_of_some _ (Heap.get?_push_size _ B.free)) (by rw [Heap.size_push, hz]) fun b o x => Heap.get?_push_of_some _ (Heap.get?_push_of_some _ x)⟩
theorem pyNext_enumT_end {e it t : Addr} {i : Nat} {items : Array Value} {old : Value} {k : Int} {Q : Option Value → Shared → Prop} (hh : A.handled = none)
    (he : IsEnum s.heap e it k old) (hit : s.heap.IsTupleIter it t i) (ht : s.heap.IsTuple t items) (hx : items[i]? = none)
    (hQ : ∀ h', Heap.ExtBut it s.heap h' → Q none { s with heap := h' }) : wpAny (model prog w) A (pyNext (.ref e)) Q E s := by
  have hT : s.TypeIs (.ref e) "enumerate" := ⟨_, he, rfl⟩
  unfold pyNext
  refine wpAny_bind (wpAny_attempt (wpAny_callSpecial?_slot (name := Str.ofString "__next__") hT F.slot_enumerate_next
    (wpAny_call_entry F.slot_enumerate_next hT F.entry_enumerate_next ?_ (F.args_enumerate_next_1 _))))
  show wpAny _ _ (field (.ref e) 2 >>= _) _ _ _
  refine wpAny_bind (wpAny_field he rfl (x := .ref it) rfl ?_)
  refine wpAny_bind (wpAny_nextOf_tuple_end (show A.in1.handled = none from hh) hit ht hx fun h' x he' hx' => ?_)
  obtain ⟨o, ho, hc⟩ := hx'
  refine wpAny_bind (wpAny_isInstance (T := "StopIteration") (b := true) ⟨o, ho, hc⟩ isSubtype_stop ?_)
  exact wpAny_pure (hQ _ he')
end
/-- the tuple at a, each item in a new pair -/
def IteT (K : PySem.W.Frag) (a : Addr) : It :=
  ⟨fun i H => ∃ (xs : List V) (x : V), SqT K H a xs ∧ xs[i]? = some x, fun i H v H' => ∃ T x, v = .ref T ∧ H T = none ∧ H' = upd H T (.tup [.int (i : Nat), x]) ∧ ∀ xs, SqT K H a xs → xs[i]? = some x, fun i H => ∃ xs : List V, SqT K H a xs ∧ xs.length ≤ i⟩
theorem turn_enumT {P : Program} {w : World} {K : PySem.W.Frag} {elts : List Expr} {kk : Nat} {tpos : Pos} (a e it : Addr) :
    Turn P w K (.Tuple elts kk tpos) (IteT K a) [e, it] e (fun i h => (∃ old, IsEnum h e it ((i : Nat) : Int) old) ∧ h.IsTupleIter it a i ∧ e ≠ it ∧ e ≠ a ∧ a ≠ it) where
  mem := by simp
  obj := fun i h st b hb => by
    obtain ⟨⟨old, he⟩, ⟨o, ho, hc, hd⟩, _⟩ := st
    have e' : b = e ∨ b = it := by simpa using hb
    rcases e' with z | z
    · rw [z]; exact ⟨_, he, fun v q => nomatch q⟩
    · rw [z]; exact ⟨o, ho, fun v q => by rw [hd] at q; cases q⟩
  keep := fun i h h' st k => let ⟨⟨old, he⟩, hi, hne⟩ := st; ⟨⟨old, k e (by simp) _ he⟩, hi.at fun o q => k it (by simp) o q, hne⟩
  item := by
    intro X hP hw hK hc i pins s σ H E I hf st hg
    subst hP hw hK
    obtain ⟨⟨old, he⟩, hit, hne, hea, hai⟩ := st
    obtain ⟨xs, x, hq, hx⟩ := hg
    obtain ⟨its, rv, p, hz⟩ := I.tuple hq
    obtain ⟨u, hu, ru⟩ := rv.get hx
    have hel : e < s.heap.objs.size := Heap.lt_size he
    have hil : it < s.heap.objs.size := by obtain ⟨_, q, _⟩ := hit; exact Heap.lt_size q
    have hlt : i < its.toArray.size := by
      have := (List.getElem?_eq_some_iff.mp hu).1
      simpa using this
    refine wpAny_pyNext_enum_itemD (Draws.tuple (A := X.A.in1) (show X.A.in1.handled = none from I.ok.hd hc) it a hai its.toArray) he ⟨hit, (show s.heap.IsTuple a its.toArray from p)⟩ hlt hne (by simp; exact ⟨hne, hea⟩) fun x' h' tk hP ho hst' hT hsz hk => ?_
    obtain ⟨hit', _⟩ := hst'
    have ex : x' = u := by
      have h1 : its[i]? = some x' := by simpa using hP
      rw [hu] at h1
      exact (Option.some.inj h1).symm
    subst ex
    refine ⟨_, rfl, wpAny_letOwnedTupleGo_enum (s := { s with heap := h', toks := tk + 1 }) ho fun h'' he' sb => ?_⟩
    have hT2 : h''.get? s.heap.objs.size = some { cls := .type "tuple", data := .seq #[.int i tk, x'] } := (sb.2 _ (Nat.ne_of_gt hel)).trans hT
    have new : ObjOk X.prog X.w (upd H s.heap.objs.size (.tup [.int (i : Nat), x])) h'' s.heap.objs.size (.tup [.int (i : Nat), x]) :=
      ⟨by show 2 ≤ sizeLine; decide, [.int i tk, x'], .cons ⟨_, rfl⟩ (.cons ru .nil), ⟨_, hT2, rfl, _, rfl⟩⟩
    have I1 : Inv X pins σ (upd H s.heap.objs.size (.tup [.int (i : Nat), x])) { s with heap := h'', toks := tk + 1 } :=
      I.turnedNew (ch := [e, it]) (fun b ob hb q => (sb.2 b (fun z => hb (by simp [z]))).trans (hk b ob (fun z => hb (by simp [z])) (fun z => hb (by simp [z])) q)) hf (Nat.le_refl _) new
    refine ⟨.ref s.heap.objs.size, _, I1, rfl, ⟨_, x, rfl, I.hok.fresh (Nat.le_refl _), rfl, fun ys hy => by rw [I.tuple_inj hy hq]; exact hx⟩, ⟨⟨x', ?_⟩, hit'.at fun o q => (sb.2 it (Ne.symm hne)).trans q, hne, hea, hai⟩, fun b hb => ?_⟩
    · have e1 : ((i + 1 : Nat) : Int) = (i : Int) + 1 := by omega
      rw [e1]; exact he'
    · have hb' : b < s.heap.objs.size := by
        have e' : b = e ∨ b = it := by simpa using hb
        rcases e' with z | z
        · rw [z]; exact hel
        · rw [z]; exact hil
      rw [upd_ne (Nat.ne_of_lt hb')]
      exact (hf b hb).1
  done := by
    intro X hP hw hK hc i pins s σ H E I hf st hg
    subst hP hw hK
    obtain ⟨⟨old, he⟩, hit, hne, hea, hai⟩ := st
    obtain ⟨xs, hq, hx⟩ := hg
    obtain ⟨its, rv, p, hz⟩ := I.tuple hq
    obtain ⟨f0, f1, f2, f3, f4, f5⟩ := hf it (by simp)
    have hl := rv.length
    exact pyNext_enumT_end (I.ok.hd hc) he hit (show s.heap.IsTuple a its.toArray from p) (by simp; omega) fun h' eb => ⟨rfl, I.turned (t' := s.toks) (fun b o hb q => eb b o hb q) f0 f1 f3 f4 f5⟩
  self := fun A i s Q E st h => let ⟨⟨_, he⟩, _⟩ := st; wpAny_pyIter_enum he h
def iEnumT (K : PySem.W.Frag) (ta : TA) : TI := fun σ H R => ta σ H fun vs H1 => ∃ a xs, vs = [.ref a] ∧ SqT K H1 a xs ∧ R (IteT K a) H1
theorem pi_enumT {X : Cx} {e : Expr} {ta : TA} {p pos tpos : Pos} {elts : List Expr} {kk : Nat} (hg : Gl X "enumerate") (hm : X.mg "enumerate" = none) (ha : PA X [e] ta) (hs : starEach [e] X.env = [(false, eval e X.env)] := by rfl) :
    PI X (.Tuple elts kk tpos) (.Call (.Name "enumerate" p) [e] [] pos) (iEnumT X.K ta) := by
  refine ⟨fun pins s σ H R I h => ?_⟩
  refine Call_ (ld_blt I hg hm boot_enumerate (PyProof.Rows.callWith_type1 (thn (ha.run pos pins s σ H _ I h) fun us s1 ⟨vs, H1, I1, r1, q1⟩ => ?_) hs rfl))
  obtain ⟨a, xs, ex, hq, q⟩ := q1
  subst ex
  cases r1 with
  | cons r rr =>
    cases rr
    cases r
    obtain ⟨its, rv, p', hz⟩ := I1.tuple hq
    have hal : a < s1.heap.objs.size := by
      obtain ⟨o, ho, _⟩ := id (show s1.heap.IsTuple a its.toArray from p')
      exact Heap.lt_size ho
    refine enum_begins1 (begins_tuple a its.toArray) (show s1.heap.IsTuple a its.toArray from p') fun h' he hit hsz hk => wpAny_pyIter_enum he ?_
    have I2 : Inv X pins σ H1 { s1 with heap := h' } := I1.kept (t' := s1.toks) hk
    refine ⟨s1.heap.objs.size + 1, [s1.heap.objs.size + 1, s1.heap.objs.size], _, _, H1, rfl, I2, turn_enumT a (s1.heap.objs.size + 1) s1.heap.objs.size, ⟨⟨.none, he⟩, ⟨_, hit, rfl, rfl⟩, Nat.succ_ne_self _, Nat.ne_of_gt (Nat.lt_succ_of_lt hal), Nat.ne_of_lt hal⟩, fun b hb => ?_, q⟩
    have e' : b = s1.heap.objs.size + 1 ∨ b = s1.heap.objs.size := by simpa using hb
    have hle : s1.heap.objs.size ≤ b := by
      rcases e' with z | z
      · rw [z]; exact Nat.le_add_right _ _
      · rw [z]; exact Nat.le_refl _
    exact I1.fpOk hle (I1.hok.fresh hle)
/-! ### by closures -/
def enumP (l : List PV) : List PV := l.mapIdx fun i p => .tup [.int (i : Int), p]
theorem enumP_get {l : List PV} {i : Nat} {p : PV} (h : l[i]? = some p) : (enumP l)[i]? = some (.tup [.int (i : Int), p]) := by
  unfold enumP
  rw [List.getElem?_mapIdx, h]
  rfl
theorem enumP_len (l : List PV) : (enumP l).length = l.length := by
  unfold enumP
  rw [List.length_mapIdx]
section
variable {X : Cx} {K : PySem.W.Frag} {e : Expr} {elts : List Expr} {kk : Nat} {ρ : En} {p : PV} {items : List PV}
theorem stp_pair {Fc Hc F0 : Hp} {T : Addr} {x y : V} {p q : PV} (s3 : Same Fc Hc) (hT : Hc T = none) (rx : Rep K Fc p x) (ry : Rep K Fc q y) : Stp Fc Hc (upd Fc T (.tup [x, y])) (upd Hc T (.tup [x, y])) ∧ Rep K (upd Fc T (.tup [x, y])) (.tup [p, q]) (.ref T) := by
  have s := Stp.new (o := .tup [x, y]) s3 hT
  exact ⟨s, .tup upd_same (.cons (rx.mono s.ff) (.cons (ry.mono s.ff) .nil))⟩
theorem ite_ok {Hx F0 : Hp} {a : Addr} {xs : List V} (r : Reps K F0 items xs) (h : ∀ Hc, Same Hx Hc → SqL K Hc a xs) : ItOk K Hx F0 (Ite K a) (enumP items) where
  go := fun i Hc Fc s1 s2 s3 hi => by
    rw [enumP_len] at hi
    have hx : i < xs.length := by rw [← r.length]; exact hi
    exact ⟨xs, xs[i], h Hc s1, List.getElem?_eq_getElem hx⟩
  stop := fun i Hc Fc s1 s2 s3 hi => ⟨xs, h Hc s1, by rw [← r.length]; rw [enumP_len] at hi; exact hi⟩
  yld := fun i Hc Fc x H' s1 s2 s3 hi y => by
    obtain ⟨T, z, rfl, hT, rfl, y⟩ := y
    obtain ⟨p, e, rp⟩ := r.get' (y xs (h _ s1))
    obtain ⟨q1, q2⟩ := stp_pair (F0 := F0) (p := .int (i : Int)) (q := p) (x := .int (i : Nat)) s3 hT (.int _) (rp.mono s2)
    exact ⟨_, _, enumP_get e, q1, q2⟩
theorem iteT_ok {Hx F0 : Hp} {a : Addr} {xs : List V} (r : Reps K F0 items xs) (h : ∀ Hc, Same Hx Hc → SqT K Hc a xs) : ItOk K Hx F0 (IteT K a) (enumP items) where
  go := fun i Hc Fc s1 s2 s3 hi => by
    rw [enumP_len] at hi
    have hx : i < xs.length := by rw [← r.length]; exact hi
    exact ⟨xs, xs[i], h Hc s1, List.getElem?_eq_getElem hx⟩
  stop := fun i Hc Fc s1 s2 s3 hi => ⟨xs, h Hc s1, by rw [← r.length]; rw [enumP_len] at hi; exact hi⟩
  yld := fun i Hc Fc x H' s1 s2 s3 hi y => by
    obtain ⟨T, z, rfl, hT, rfl, y⟩ := y
    obtain ⟨p, e, rp⟩ := r.get' (y xs (h _ s1))
    obtain ⟨q1, q2⟩ := stp_pair (F0 := F0) (p := .int (i : Int)) (q := p) (x := .int (i : Nat)) s3 hT (.int _) (rp.mono s2)
    exact ⟨_, _, enumP_get e, q1, q2⟩
def seqT : PV → Option (List PV)
  | .tup l => some l
  | .lst l => some l
  | _ => none
theorem i_enum {pp pos tpos : Pos} (hg : Gl X "enumerate") (hm : X.mg "enumerate" = none) (ns : notStar e = true) (h : PA X [e] (tAb X.K ρ [p])) (hi : seqT p = some items) : PI X (.Tuple elts kk tpos) (.Call (.Name "enumerate" pp) [e] [] pos) (tItB X.K ρ (enumP items)) := by
  cases p <;> first | (cases hi; done) | skip
  · cases hi
    refine (pi_enumT hg hm h (star_cons ns _)).mono fun σ H R ⟨B, F, st, k⟩ => ⟨B, F, st, fun vs H1 F1 s1 r => ?_⟩
    obtain ⟨v, rfl, hv⟩ := r.one
    obtain ⟨a, xs, rfl, ha, rr⟩ := hv.tup s1.fh
    exact ⟨a, xs, rfl, ha.sq, k _ _ _ s1 (iteT_ok rr fun Hc s => sqT_mono s ha)⟩
  · cases hi
    refine (pi_enum hg hm h (star_cons ns _)).mono fun σ H R ⟨B, F, st, k⟩ => ⟨B, F, st, fun vs H1 F1 s1 r => ?_⟩
    obtain ⟨v, rfl, hv⟩ := r.one
    obtain ⟨a, xs, rfl, ha, rr⟩ := hv.lst s1.fh
    exact ⟨a, xs, rfl, .of ha, k _ _ _ s1 (ite_ok rr fun Hc s => .of (s _ _ ha))⟩

theorem reps_one {F : Hp} {p : PV} {xs : List V} (h : Reps K F [p] xs) : ∃ v, xs = [v] ∧ Rep K F p v := by
  cases h with
  | cons a b => cases b; exact ⟨_, rfl, a⟩
theorem reps_two {F : Hp} {p q : PV} {xs : List V} (h : Reps K F [p, q] xs) : ∃ v u, xs = [v, u] ∧ Rep K F p v ∧ Rep K F q u := by
  cases h with
  | cons a b =>
    cases b with
    | cons b c => cases c; exact ⟨_, _, rfl, a, b⟩
theorem i_enumV {pp pos tpos : Pos} (hg : Gl X "enumerate") (hm : X.mg "enumerate" = none) (ns : notStar e = true) (h : PA X [e] (tAs X.K ρ [p])) (hi : seqT p = some items) : PI X (.Tuple elts kk tpos) (.Call (.Name "enumerate" pp) [e] [] pos) (tIt X.K ρ (enumP items)) := by
  cases p <;> first | (cases hi; done) | skip
  · cases hi
    refine (pi_enumT hg hm h (star_cons ns _)).mono fun σ H R ⟨B, F, st, k⟩ => ⟨B, F, st, fun vs H1 F1 s1 r => ?_⟩
    obtain ⟨v, rfl, hv⟩ := reps_one r
    cases hv with
    | tup ha rr => exact ⟨_, _, rfl, sqT_mono s1.fh ha, k _ _ _ s1 (iteT_ok rr fun Hc s => sqT_mono s ha)⟩
  · cases hi
    refine (pi_enum hg hm h (star_cons ns _)).mono fun σ H R ⟨B, F, st, k⟩ => ⟨B, F, st, fun vs H1 F1 s1 r => ?_⟩
    obtain ⟨v, rfl, hv⟩ := reps_one r
    cases hv with
    | lst ha rr => exact ⟨_, _, rfl, .of (s1.fh _ _ ha), k _ _ _ s1 (ite_ok rr fun Hc s => .of (s _ _ ha))⟩
/-! zip -/
def zipP : List PV → List PV → List PV
  | p :: l, q :: m => .tup [p, q] :: zipP l m
  | _, _ => []
theorem zipP_len : ∀ l m : List PV, (zipP l m).length = min l.length m.length
  | [], m => by simp [zipP]
  | p :: l, [] => by simp [zipP]
  | p :: l, q :: m => by
    simp only [zipP, List.length_cons, zipP_len l m]
    omega
theorem zipP_get : ∀ {l m : List PV} {i : Nat} {p q : PV}, l[i]? = some p → m[i]? = some q → (zipP l m)[i]? = some (.tup [p, q])
  | [], _, _, _, _, h, _ => by simp at h
  | _ :: _, [], _, _, _, _, h => by simp at h
  | p :: l, q :: m, 0, _, _, h1, h2 => by
    simp at h1 h2
    subst h1 h2
    rfl
  | p :: l, q :: m, i + 1, p', q', h1, h2 => by
    show (zipP l m)[i]? = _
    exact zipP_get (by simpa using h1) (by simpa using h2)
def zipV : PV → PV → Option (List PV)
  | .tup l, .tup m => some (zipP l m)
  | .lst l, .lst m => some (zipP l m)
  | _, _ => none
theorem itz_ok {Hx F0 : Hp} {a b : Addr} {xs ys : List V} {l m : List PV} (r : Reps K F0 l xs) (r2 : Reps K F0 m ys) (h : ∀ Hc, Same Hx Hc → SqL K Hc a xs) (h2 : ∀ Hc, Same Hx Hc → SqL K Hc b ys) : ItOk K Hx F0 (Itz K a b) (zipP l m) where
  go := fun i Hc Fc s1 s2 s3 hi => by
    rw [zipP_len] at hi
    have hx : i < xs.length := by rw [← r.length]; omega
    have hy : i < ys.length := by rw [← r2.length]; omega
    exact ⟨xs, ys, xs[i], ys[i], h Hc s1, h2 Hc s1, List.getElem?_eq_getElem hx, List.getElem?_eq_getElem hy⟩
  stop := fun i Hc Fc s1 s2 s3 hi => by
    rw [zipP_len, r.length, r2.length] at hi
    exact ⟨xs, ys, h Hc s1, h2 Hc s1, by omega⟩
  yld := fun i Hc Fc x H' s1 s2 s3 hi y => by
    obtain ⟨T, z, u, rfl, hT, rfl, y1, y2⟩ := y
    obtain ⟨p, e, rp⟩ := r.get' (y1 xs (h _ s1))
    obtain ⟨q, e2, rq⟩ := r2.get' (y2 ys (h2 _ s1))
    obtain ⟨q1, q2⟩ := stp_pair (F0 := F0) (p := p) (q := q) s3 hT (rp.mono s2) (rq.mono s2)
    exact ⟨_, _, zipP_get e e2, q1, q2⟩
theorem itzT_ok {Hx F0 : Hp} {a b : Addr} {xs ys : List V} {l m : List PV} (r : Reps K F0 l xs) (r2 : Reps K F0 m ys) (h : ∀ Hc, Same Hx Hc → SqT K Hc a xs) (h2 : ∀ Hc, Same Hx Hc → SqT K Hc b ys) : ItOk K Hx F0 (RZ.ItzT K a b) (zipP l m) where
  go := fun i Hc Fc s1 s2 s3 hi => by
    rw [zipP_len] at hi
    have hx : i < xs.length := by rw [← r.length]; omega
    have hy : i < ys.length := by rw [← r2.length]; omega
    exact ⟨xs, ys, xs[i], ys[i], h Hc s1, h2 Hc s1, List.getElem?_eq_getElem hx, List.getElem?_eq_getElem hy⟩
  stop := fun i Hc Fc s1 s2 s3 hi => by
    rw [zipP_len, r.length, r2.length] at hi
    exact ⟨xs, ys, h Hc s1, h2 Hc s1, by omega⟩
  yld := fun i Hc Fc x H' s1 s2 s3 hi y => by
    obtain ⟨T, z, u, rfl, hT, rfl, y1, y2⟩ := y
    obtain ⟨p, e, rp⟩ := r.get' (y1 xs (h _ s1))
    obtain ⟨q, e2, rq⟩ := r2.get' (y2 ys (h2 _ s1))
    obtain ⟨q1, q2⟩ := stp_pair (F0 := F0) (p := p) (q := q) s3 hT (rp.mono s2) (rq.mono s2)
    exact ⟨_, _, zipP_get e e2, q1, q2⟩
theorem i_zip {e2 : Expr} {q : PV} {pp pos tpos : Pos} (hg : Gl X "zip") (hm : X.mg "zip" = none) (ns : notStar e = true) (ns2 : notStar e2 = true) (h : PA X [e, e2] (tAb X.K ρ [p, q])) (hi : zipV p q = some items) : PI X (.Tuple elts kk tpos) (.Call (.Name "zip" pp) [e, e2] [] pos) (tItB X.K ρ items) := by
  refine (RZ.pi_zipA hg hm h (star_cons ns _) (star_any _ _ (by rw [List.all_cons, ns2]; rfl))).mono fun σ H R ⟨B, F, st, k⟩ => ⟨B, F, st, fun vs H1 F1 s1 r => ?_⟩
  obtain ⟨v, u, rfl, hv, hu⟩ := r.two
  unfold zipV at hi
  split at hi
  · cases hi
    obtain ⟨a, xs, rfl, ha, rr⟩ := hv.tup s1.fh
    obtain ⟨b, ys, rfl, hb, rr2⟩ := hu.tup s1.fh
    exact ⟨a, b, xs, ys, rfl, .inr ⟨ha.sq, hb.sq, k _ _ _ s1 (itzT_ok rr rr2 (fun Hc s => sqT_mono s ha) fun Hc s => sqT_mono s hb)⟩⟩
  · cases hi
    obtain ⟨a, xs, rfl, ha, rr⟩ := hv.lst s1.fh
    obtain ⟨b, ys, rfl, hb, rr2⟩ := hu.lst s1.fh
    exact ⟨a, b, xs, ys, rfl, .inl ⟨.of ha, .of hb, k _ _ _ s1 (itz_ok rr rr2 (fun Hc s => .of (s _ _ ha)) fun Hc s => .of (s _ _ hb))⟩⟩
  · cases hi
theorem i_zipV {e2 : Expr} {q : PV} {pp pos tpos : Pos} (hg : Gl X "zip") (hm : X.mg "zip" = none) (ns : notStar e = true) (ns2 : notStar e2 = true) (h : PA X [e, e2] (tAs X.K ρ [p, q])) (hi : zipV p q = some items) : PI X (.Tuple elts kk tpos) (.Call (.Name "zip" pp) [e, e2] [] pos) (tIt X.K ρ items) := by
  refine (RZ.pi_zipA hg hm h (star_cons ns _) (star_any _ _ (by rw [List.all_cons, ns2]; rfl))).mono fun σ H R ⟨B, F, st, k⟩ => ⟨B, F, st, fun vs H1 F1 s1 r => ?_⟩
  obtain ⟨v, u, rfl, hv, hu⟩ := reps_two r
  unfold zipV at hi
  split at hi
  · cases hi
    cases hv with
    | tup ha rr =>
      cases hu with
      | tup hb rr2 => exact ⟨_, _, _, _, rfl, .inr ⟨sqT_mono s1.fh ha, sqT_mono s1.fh hb, k _ _ _ s1 (itzT_ok rr rr2 (fun Hc s => sqT_mono s ha) fun Hc s => sqT_mono s hb)⟩⟩
  · cases hi
    cases hv with
    | lst ha rr =>
      cases hu with
      | lst hb rr2 => exact ⟨_, _, _, _, rfl, .inl ⟨.of (s1.fh _ _ ha), .of (s1.fh _ _ hb), k _ _ _ s1 (itz_ok rr rr2 (fun Hc s => .of (s _ _ ha)) fun Hc s => .of (s _ _ hb))⟩⟩
  · cases hi
/-! reversed -/
theorem rev_get {α : Type} {l : List α} {i : Nat} (h : i < l.length) : l.reverse[i]? = l[l.length - 1 - i]? := List.getElem?_reverse h
theorem itv_ok {Hx F0 : Hp} {a : Addr} {xs : List V} (r : Reps K F0 items xs) (h : ∀ Hc, Same Hx Hc → SqL K Hc a xs) : ItOk K Hx F0 (Itv K a xs.length) items.reverse where
  go := fun i Hc Fc s1 s2 s3 hi => by
    rw [List.length_reverse, r.length] at hi
    exact ⟨hi, xs, xs[xs.length - 1 - i]'(by omega), h Hc s1, List.getElem?_eq_getElem _⟩
  stop := fun i Hc Fc s1 s2 s3 hi => by
    rw [List.length_reverse, r.length] at hi
    exact hi
  yld := fun i Hc Fc x H' s1 s2 s3 hi y => by
    obtain ⟨rfl, y⟩ := y
    obtain ⟨p, e, rp⟩ := r.get' (y xs (h _ s1))
    rw [List.length_reverse] at hi
    refine ⟨p, Fc, ?_, .refl s3, rp.mono s2⟩
    rw [rev_get hi, r.length]
    exact e
theorem itvT_ok {Hx F0 : Hp} {a : Addr} {xs : List V} (r : Reps K F0 items xs) (h : ∀ Hc, Same Hx Hc → SqT K Hc a xs) : ItOk K Hx F0 (RT.ItvT K a xs.length) items.reverse where
  go := fun i Hc Fc s1 s2 s3 hi => by
    rw [List.length_reverse, r.length] at hi
    exact ⟨hi, xs, xs[xs.length - 1 - i]'(by omega), h Hc s1, List.getElem?_eq_getElem _⟩
  stop := fun i Hc Fc s1 s2 s3 hi => by
    rw [List.length_reverse, r.length] at hi
    exact hi
  yld := fun i Hc Fc x H' s1 s2 s3 hi y => by
    obtain ⟨rfl, y⟩ := y
    obtain ⟨p, e, rp⟩ := r.get' (y xs (h _ s1))
    rw [List.length_reverse] at hi
    refine ⟨p, Fc, ?_, .refl s3, rp.mono s2⟩
    rw [rev_get hi, r.length]
    exact e
theorem i_rev {tg : Expr} {pp pos : Pos} (hg : Gl X "reversed") (hm : X.mg "reversed" = none) (ns : notStar e = true) (h : PE X e (tBw X.K ρ p)) (hi : seqT p = some items) : PI X tg (.Call (.Name "reversed" pp) [e] [] pos) (tItB X.K ρ items.reverse) := by
  refine (RT.pi_revA hg hm h (star_cons ns _)).mono fun σ H R ⟨B, F, st, k⟩ => ⟨B, F, st, fun v H1 F1 s1 r => ?_⟩
  cases p <;> first | (cases hi; done) | skip
  · cases hi
    obtain ⟨a, xs, rfl, ha, rr⟩ := r.tup s1.fh
    exact ⟨a, xs, rfl, .inr ⟨ha.sq, k _ _ _ s1 (itvT_ok rr fun Hc s => sqT_mono s ha)⟩⟩
  · cases hi
    obtain ⟨a, xs, rfl, ha, rr⟩ := r.lst s1.fh
    exact ⟨a, xs, rfl, .inl ⟨.of ha, k _ _ _ s1 (itv_ok rr fun Hc s => .of (s _ _ ha))⟩⟩
theorem i_revV {tg : Expr} {pp pos : Pos} (hg : Gl X "reversed") (hm : X.mg "reversed" = none) (ns : notStar e = true) (h : PE X e (tE X.K ρ p)) (hi : seqT p = some items) : PI X tg (.Call (.Name "reversed" pp) [e] [] pos) (tIt X.K ρ items.reverse) := by
  refine (RT.pi_revA hg hm h (star_cons ns _)).mono fun σ H R ⟨B, F, st, k⟩ => ⟨B, F, st, fun v H1 F1 s1 r => ?_⟩
  cases p <;> first | (cases hi; done) | skip
  · cases hi
    cases r with
    | tup ha rr => exact ⟨_, _, rfl, .inr ⟨sqT_mono s1.fh ha, k _ _ _ s1 (itvT_ok rr fun Hc s => sqT_mono s ha)⟩⟩
  · cases hi
    cases r with
    | lst ha rr => exact ⟨_, _, rfl, .inl ⟨.of (s1.fh _ _ ha), k _ _ _ s1 (itv_ok rr fun Hc s => .of (s _ _ ha))⟩⟩
/-! range with a step -/
def rg3 (i j c : Int) : Option (List PV) := if decide (c ≠ 0) && decide (c.natAbs < 1073741824) && Builtin.Range.small i j c then some ((List.range (Builtin.Range.rangeSize i j c).toNat).map fun k : Nat => PV.int (i + (k : Int) * c)) else none
end
end Pi

/-! Pi 8g: xs.index(k) of a list of ints; xs[k] for lists, by values. -/
namespace Pi
open PySem PySem.Spec PyProof.Rows L2
def indexV : PV → PV → Option PV
  | .lst l, .int k => (intsOf l).bind fun ns => if k ∈ ns then some (.int (ns.idxOf k : Nat)) else none
  | _, _ => none
def cIndex (f g : Cl) : Cl := fun ρ => (f ρ).bind fun p => (g ρ).bind fun q => indexV p q
theorem flat_ints (ns : List Int) : (ns.map V.int).all flatV = true := by
  rw [List.all_map]
  exact List.all_eq_true.mpr fun _ _ => rfl
theorem s_index {X : Cx} {e o : Expr} {ρ : En} {p q r : PV} {apos pos : Pos} (ho : PE X o (tBw X.K ρ p)) (he : PE X e (tE X.K ρ q)) (hn : notStar e = true) (hline : (apos.endLine == pos.line) = true) (hb : attributeBase o "index" X.env (eval o X.env) = eval o X.env) (hv : indexV p q = some r) : PE X (.Call (.Attribute o "index" apos) [e] [] pos) (tE X.K ρ r) := by
  have few : ((backTo pos (starEach [e] X.env)).all (fun x => !x.1) && (backToKw pos (keywordEach [] X.env)).all (fun x => x.1.isSome) && decide ([e].length + ([] : List Keyword).length + (if ([] : List Keyword).isEmpty then 0 else 1) < 30)) = true := by
    rw [star_cons hn]
    rfl
  refine (pe_bm PySem.F.plainAttrs_list PySem.F.slot_list_index PySem.F.type_list_index mt_index ho (pa_cons he pa_nil (star_cons hn _)) hb few hline (star_cons hn _) rfl).mono fun σ H Q ⟨B, F, st, k⟩ => ⟨B, F, st, fun x H1 F1 s1 rx => ?_⟩
  unfold indexV at hv
  split at hv
  · rename_i l kk
    obtain ⟨ns, e1, hv⟩ := Option.bind_eq_some_iff.mp hv
    split at hv
    · rename_i hk
      cases hv
      have el := intsOf_map e1
      subst el
      obtain ⟨a, xs, rfl, ha, rr⟩ := rx.lst s1.fh
      have ex := rr.ints
      subst ex
      refine ⟨.inl ⟨rfl, _, .of ha⟩, B, F1, st.step s1, fun y H2 F2 s2 ry => ?_⟩
      cases ry
      have hj : ns.idxOf kk < ns.length := List.idxOf_lt_length_iff.mpr hk
      refine ⟨a, ns.map V.int, .int kk, ns.idxOf kk, .int kk, rfl, rfl, .of (s2.hh _ _ ha), rfl, flat_ints ns, ?_, beq_self_eq_true kk, fun m z' hm hz => ?_, k _ _ F2 (s1.trans s2) (.int _)⟩
      · rw [List.getElem?_map, List.getElem?_eq_getElem hj, List.getElem_idxOf hj]
        rfl
      · rw [List.getElem?_map] at hz
        obtain ⟨y, hy, rfl⟩ := Option.map_eq_some_iff.mp hz
        obtain ⟨hml, hym⟩ := List.getElem?_eq_some_iff.mp hy
        have h3 := List.not_of_lt_findIdx (p := fun y => y == kk) (xs := ns) (i := m) hm
        show (y == kk) = false
        rw [← hym]
        simpa using h3
    · cases hv
  · cases hv
/-- xs[k], k from 0 on, by values -/
theorem get_listN {X : Cx} : PGet X (fun o i H Q => ∃ p xs k z, o = .ref p ∧ i = .int k ∧ H p = some (.lst xs) ∧ 0 ≤ k ∧ xs[k.toNat]? = some z ∧ Q z H) := by
  intro pins s σ H o i ov iv Q I ro ri h
  obtain ⟨p, xs, k, z, rfl, rfl, hp, h0, hz, q⟩ := h
  cases ro
  obtain ⟨t, rfl⟩ := ri
  obtain ⟨its, r, pl, hl⟩ := I.list (.inl (.inl hp))
  obtain ⟨u, hu, ru⟩ := r.get hz
  have hlt := (List.getElem?_eq_some_iff.mp hz).1
  have hn := line63
  refine wpAny_getItem_list pl.isList h0 (by have := r.length; omega) (by simpa using hu) ⟨z, H, I, ru, q⟩
end Pi

/-! Pi 8h: dicts as expressions: {}, {k: v}, d.get(k, v); d[k] = v. -/
namespace Pi
open PySem PySem.Spec PyProof.Rows L2
section
variable {X : Cx} {e o f : Expr} {ρ : En} {p q r z : PV} {pos : Pos}
theorem s_dnew : PE X (.Dict [] [] pos) (tFr X.K ρ (.dic [])) := pe_dnewT.mono fun σ H Q ⟨B, F, st, k⟩ a n =>
  k _ _ F (.new' st.fh n) (by
    unfold RelFr
    rw [if_pos (show (PV.dic []).isCont = true from rfl)]
    exact ⟨a, rfl, n, st.fh.free n, _, upd_same, .nil⟩)
def cDNew : Cl := fun _ => some (.dic [])
/-- {k: v}, k a tuple -/
theorem wpAny_Dict1 {prog : Program} {w : World} {K : Type} [DecidableEq K] {knd : HeapKind prog w K} {A : Around} {E : Value → Shared → Prop} {s : Shared} {env : Env} {keys : List (Option Expr)} {values : List Expr} {Q : Value → Shared → Prop} (hu : knd.room A)
    (hall : keys.all (·.isSome) = true) (hl : keys.length = values.length) (h0 : keys ≠ []) (hlen : keys.length ≤ 15)
    (h : wpAny (model prog w) A (evalPairs (pairTrees keys values env pos)) (fun vs s₁ => ∃ ps, CarriesH knd s₁.heap vs ps ∧ s₁.heap.DictOfH knd s.heap.objs.size [] ∧
      ∀ h' tk, h'.DictOfH knd s.heap.objs.size (storedAllH [] ps) → Heap.SameBut s.heap.objs.size s₁.heap h' → Q (.ref s.heap.objs.size) { s₁ with heap := h', toks := tk }) E
      { s with heap := s.heap.push { cls := .type "dict", data := .dict #[] } }) :
    wpAny (model prog w) A (eval (.Dict keys values pos) env) Q E s := by
  have hn := pairTrees_length keys values env pos hall hl
  have hp0 : pairTrees keys values env pos ≠ [] := by
    intro he
    rw [he] at hn
    exact h0 (List.length_eq_zero_iff.mp hn.symm)
  rw [arm_eval_Dict, zip_pairTrees keys values env pos hall hl, dictDisplay_pairs _ hp0 (by rw [hn]; omega)]
  exact wpAny_bind (wpAny_standAt (wpAny_bind (wpAny_subDictH (knd := knd) (Q := fun d s' => wpAny (model prog w) A (pure (Value.ref d)) Q E s') hu (by rw [hn]; exact hlen)
    (wpAny_mono h (fun vs s₁ h₁ => by obtain ⟨ps, hc, hm, hq⟩ := h₁; exact ⟨ps, hc, hm, fun h' tk a b => wpAny_pure (hq h' tk a b)⟩) fun _ _ e => e))))
def dispQ (p : Addr) (Q : VK) : List (V × V) → Hp → Prop := fun ps H2 => ∃ y b ks, ps = [(.ref b, y)] ∧ H2 b = some (.tup (ks.map kV)) ∧ H2 p = some (.dT []) ∧ Q (.ref p) (upd H2 p (.dT [(ks, y)]))
def tDisp1 (tk tv : TE) : TE := fun σ H Q => ∀ p, H p = none → tPairs [(tk, tv)] σ (upd H p (.dT [])) (dispQ p Q)
theorem pe_disp1 (hu : X.A.units + 65 < cLine) {tk tv : TE} (hk : PE X e tk) (hv : PE X f tv) : PE X (.Dict [some e] [f] pos) (tDisp1 tk tv) := by
  refine ⟨fun pins s σ H Q I q => ?_⟩
  have hn := I.hok.fresh (Nat.le_refl s.heap.objs.size)
  have I1 := I.laid (a := s.heap.objs.size) (o := .dT []) (h' := s.heap.push { cls := .type "dict", data := .dict #[] }) (t' := s.toks) (fun _ _ q => Heap.get?_push_of_some _ q) (Nat.le_refl _) (dt_empty s.heap I.big)
  refine wpAny_Dict1 (knd := tupleKind (mixKind X.prog X.w)) (show X.A.units < cLine by omega) rfl rfl (by simp) (by show 1 ≤ 15; decide) ?_
  have run := (pps_cons (pos := pos) hk hv (pps_nil (X := X) (pos := pos))).run pins _ σ _ (dispQ s.heap.objs.size Q) I1 (q _ hn)
  refine thn run fun ws s2 ⟨ps, H2, I2, rel, y, b, ks, ep, hb, e, q2⟩ => ?_
  subst ep
  cases rel with
  | @cons a w as bs h t =>
    cases t
    obtain ⟨wk, wv⟩ := w
    obtain ⟨rk, rv⟩ := h
    cases (show wk = Value.ref b from rk)
    obtain ⟨z, hd, xs, rel, dd⟩ := dt_of I2.hok e
    cases rel
    refine ⟨[(ks, b, wv)], ⟨rfl, rfl, key_of I2.hok hb, trivial⟩, dd, fun h' tk' dd' hs => ⟨.ref s.heap.objs.size, _, ?_, rfl, q2⟩⟩
    obtain ⟨o', es, ep, hq, h2, h3, h4, _, h5⟩ := dd'
    have hbne : b ≠ s.heap.objs.size := fun z => by rw [z, e] at hb; cases hb
    refine d_write I2 (by rw [e]; exact True.intro) hs ⟨o', hq⟩ ⟨by show 1 ≤ sizeLine; decide, hd, [(ks, b, wv)], .cons ⟨rfl, ?_, rv⟩ .nil, o', es, ep, hq, h2, h3, h4, h5⟩
    rw [upd_ne hbne]
    exact hb
def cDict1 (f g : Cl) : Cl := fun ρ => (f ρ).bind fun q => (g ρ).bind fun p => if isKey q then some (.dic [(q, p)]) else none
theorem s_dict1 (hu : X.A.units + 65 < cLine) (hk : PE X e (tE X.K ρ q)) (hv : PE X f (tE X.K ρ p)) (c : isKey q = true) : PE X (.Dict [some e] [f] pos) (tFr X.K ρ (.dic [(q, p)])) :=
  (pe_disp1 hu hk hv).mono fun σ H Q ⟨B, F, st, k⟩ a n => by
    have hFa := st.fh.free n
    have s0 : Stp F H F (upd H a (.dT [])) := .new' st.fh n
    refine ⟨B, F, st.step s0, fun x H1 F1 s1 rx => ⟨B, F1, (st.step s0).step s1, fun y H2 F2 s2 ry => ?_⟩⟩
    obtain ⟨ks, hks⟩ := Option.isSome_iff_exists.mp c
    obtain ⟨b, rfl, hb⟩ := (RelB.key s2.fh (.inl (rx.mono s2.ff)) hks : ∃ b, x = V.ref b ∧ H2 b = some (.tup (ks.map kV)))
    have s12 := s1.trans s2
    have ha2 : H2 a = some (.dT []) := s12.hh _ _ upd_same
    have hF2 : F2 a = none := by
      cases z : F2 a with
      | none => rfl
      | some u =>
        rcases s12.nw a u z with w | w
        · rw [hFa] at w; cases w
        · rw [upd_same] at w; cases w
    refine ⟨y, b, ks, rfl, hb, ha2, k _ _ F2 ⟨fun c u hc => ?_, s12.ff, fun c u hc => ?_, fun c u hc => ?_⟩ ?_⟩
    · have hne : c ≠ a := fun z => by rw [z, n] at hc; cases hc
      rw [upd_ne hne]
      exact s12.hh _ _ (by rw [upd_ne hne]; exact hc)
    · have hne : c ≠ a := fun z => by rw [z, hF2] at hc; cases hc
      rw [upd_ne hne]
      exact s12.fh _ _ hc
    · rcases s12.nw c u hc with w | w
      · exact .inl w
      · by_cases hne : c = a
        · rw [hne] ; exact .inr n
        · rw [upd_ne hne] at w
          exact .inr w
    · unfold RelFr
      rw [if_pos (show (PV.dic [(q, p)]).isCont = true from rfl)]
      exact ⟨a, rfl, n, hF2, _, upd_same, .cons hks ry .nil⟩
/-- d.get(k, v) -/
def getV (p q z : PV) : Option PV := match p with
  | .dic kvs => if isKey q then some ((valP kvs q).getD z) else none
  | _ => none
def cDGet (f g h : Cl) : Cl := fun ρ => (f ρ).bind fun p => (g ρ).bind fun q => (h ρ).bind fun z => getV p q z
theorem s_dget2 (hu : X.A.units + 65 < cLine) {apos : Pos} (ho : PE X o (tBw X.K ρ p)) (he : PE X e (tBw X.K ρ q)) (hf : PE X f (tE X.K ρ z)) (m : M2 X o "get" apos e f pos) (hv : getV p q z = some r) : PE X (.Call (.Attribute o "get" apos) [e, f] [] pos) (tE X.K ρ r) := by
  unfold getV at hv
  split at hv
  · rename_i kvs
    split at hv
    · rename_i hk
      cases hv
      obtain ⟨ks, hks⟩ := Option.isSome_iff_exists.mp hk
      refine (pe_dget2 (by omega) ho he hf m).mono fun σ H Q ⟨B, F, st, k⟩ => ⟨B, F, st, fun x H1 F1 s1 rx => ?_⟩
      obtain ⟨a, rfl, es, ha, re⟩ := rx.dic s1.fh
      refine ⟨a, rfl, .inr ⟨es, .inl ha⟩, B, F1, st.step s1, fun y H2 F2 s2 ry => ⟨B, F2, (st.step s1).step s2, fun w H3 F3 s3 rw' => ?_⟩⟩
      obtain ⟨a', o', ea, g, ho'⟩ := RelB.dget s3.fh ((rx.step s2).step s3) (ry.step s3) hks
      cases ea
      refine ⟨o', g, k _ _ F3 ((s1.trans s2).trans s3) ?_⟩
      rcases ho' with ⟨h1, rfl⟩ | ⟨p', v', h1, rfl, rp⟩
      · rw [h1]
        exact rw'
      · rw [h1]
        exact rp
    · cases hv
  · cases hv
end
/-- x[i] = v, into lists and dicts -/
theorem set_both {X : Cx} (hu : X.A.units + 65 < cLine) : PSet X (fun o i v H Q => rSetL o i v H Q ∨ ∃ a H', o = .ref a ∧ DPut H a i v H' ∧ Q H') := by
  intro pins s σ H o i v ov iv u Q I ro ri rv h
  rcases h with h | ⟨a, H', rfl, g, q⟩
  · exact set_list pins s σ H o i v ov iv u Q I ro ri rv h
  · obtain rfl : ov = Value.ref a := ro
    exact d_setItem (by omega) I g ri rv fun s3 I3 => ⟨H', I3, q⟩
end Pi

/-! Pi 9: the compilation of expressions into closures, and that it is right. -/
namespace Pi
open PySem PySem.Spec PyProof.Rows L2

structure Cfg where
  N : List Str
  sc : Scope
  fnc : Str → Bool
  blt : List Str
  fns : List (Str × (List PV → Option PV))
structure Good (Γ : Cfg) (X : Cx) : Prop where
  N : X.N = Γ.N
  nd : X.N.Nodup
  sc : X.env.scope = Γ.sc
  calm : X.calm = true
  xe : X.xe = fun _ _ => False
  fnc : X.fn = Γ.fnc
  blt : ∀ x ∈ Γ.blt, X.mg x = none
  fns : ∀ x g, Γ.fns.lookup x = some g → FnX X x g
  units : X.A.units + 100 < cLine
def slotOf (N : List Str) (x : Str) : Option Nat := N.findIdx? (fun y => decide (y = x))
def visOk (Γ : Cfg) (x : Str) : Bool := (match Γ.sc.names.lookup x with
  | some .local => true
  | some .cell => true
  | some .free => true
  | _ => false) && !(x == ("__debug__" : Str)) && !(x == ("__classdict__" : Str))
def storeOk (Γ : Cfg) (x : Str) : Bool := match Γ.sc.names.lookup x with
  | some .local => true
  | some .cell => Γ.fnc x
  | _ => false
def glOk (Γ : Cfg) (x : Str) : Bool := (match Γ.sc.names.lookup x with
  | some .globalImplicit => true
  | _ => false) && !(x == ("__debug__" : Str)) && !decide (x = "__name__")
theorem slotOf_get {N : List Str} {x : Str} {i : Nat} (h : slotOf N x = some i) : N[i]? = some x := by
  obtain ⟨h1, h2, _⟩ := List.findIdx?_eq_some_iff_getElem.mp h
  rw [List.getElem?_eq_getElem h1]
  rw [of_decide_eq_true h2]
section
variable {Γ : Cfg} {X : Cx} {x : Str} {i : Nat}
theorem Good.var (G : Good Γ X) (v : visOk Γ x = true) (h : slotOf Γ.N x = some i) (pos : Pos) : PE X (.Name x pos) (tVar i) := by
  simp only [visOk, Bool.and_eq_true] at v
  obtain ⟨⟨v1, v2⟩, v3⟩ := v
  refine pe_var (by rw [G.N]; exact slotOf_get h) ?_ (by simpa using v2) (by simpa using v3)
  unfold Vis
  rw [G.sc]
  split at v1 <;> first | exact .inl (by assumption) | exact .inr (.inl (by assumption)) | exact .inr (.inr (by assumption)) | cases v1
theorem Good.gl (G : Good Γ X) (v : glOk Γ x = true) : Gl X x ∧ (x == ("__debug__" : Str)) = false ∧ x ≠ "__name__" := by
  simp only [glOk, Bool.and_eq_true] at v
  obtain ⟨⟨v1, v2⟩, v3⟩ := v
  refine ⟨?_, by simpa using v2, by simpa using v3⟩
  show X.env.scope.names.lookup x = some .globalImplicit
  rw [G.sc]
  split at v1
  · assumption
  · cases v1
theorem Good.store (G : Good Γ X) (v : storeOk Γ x = true) : L2.Loc X.env.scope x ∧ (X.fn x = true ∨ X.env.scope.names.lookup x = some .local) := by
  unfold storeOk at v
  unfold L2.Loc
  rw [G.sc, G.fnc]
  split at v
  · rename_i h
    exact ⟨.inl h, .inr h⟩
  · rename_i h
    exact ⟨.inr h, .inl v⟩
  · cases v
end

/-! ### the compiler -/
def opt2 {α β γ : Type} (k : α → β → γ) (o : Option α) (u : Option β) : Option γ := o.bind fun a => u.map fun b => k a b
def opt3 {α β γ δ : Type} (k : α → β → γ → δ) (o : Option α) (u : Option β) (v : Option γ) : Option δ := o.bind fun a => u.bind fun b => v.map fun c => k a b c
def gd {α : Type} (b : Bool) (o : Option α) : Option α := if b then o else none
theorem opt2_eq {α β γ : Type} {k : α → β → γ} {o : Option α} {u : Option β} {r : γ} (h : opt2 k o u = some r) : ∃ a b, o = some a ∧ u = some b ∧ k a b = r := by
  unfold opt2 at h
  obtain ⟨a, h1, h⟩ := Option.bind_eq_some_iff.mp h
  obtain ⟨b, h2, h⟩ := Option.map_eq_some_iff.mp h
  exact ⟨a, b, h1, h2, h⟩
theorem opt3_eq {α β γ δ : Type} {k : α → β → γ → δ} {o : Option α} {u : Option β} {v : Option γ} {r : δ} (h : opt3 k o u v = some r) : ∃ a b c, o = some a ∧ u = some b ∧ v = some c ∧ k a b c = r := by
  unfold opt3 at h
  obtain ⟨a, h1, h⟩ := Option.bind_eq_some_iff.mp h
  obtain ⟨b, h2, h⟩ := Option.bind_eq_some_iff.mp h
  obtain ⟨c, h3, h⟩ := Option.map_eq_some_iff.mp h
  exact ⟨a, b, c, h1, h2, h3, h⟩
theorem gd_eq {α : Type} {b : Bool} {o : Option α} {r : α} (h : gd b o = some r) : b = true ∧ o = some r := by
  unfold gd at h
  split at h
  · exact ⟨by assumption, h⟩
  · cases h
structure Cs where
  v : Cfg → Expr → Option Cl
  t : Cfg → Expr → Option Ct
/-- a thing to be read: a name may be someone's own -/
def bw (c : Cs) (Γ : Cfg) : Expr → Option Cl
  | .Name x _ => gd (visOk Γ x) ((slotOf Γ.N x).map cVarB)
  | e => c.v Γ e
def rowV (c : Cs) (Γ : Cfg) : List Expr → Option (List Cl)
  | [] => some []
  | e :: es => gd (notStar e) (opt2 List.cons (c.v Γ e) (rowV c Γ es))
def rowB (c : Cs) (Γ : Cfg) : List Expr → Option (List Cl)
  | [] => some []
  | e :: es => gd (notStar e) (opt2 List.cons (bw c Γ e) (rowB c Γ es))
def andC (c : Cs) (Γ : Cfg) : List Expr → Option Cl
  | [] => none
  | [a] => c.v Γ a
  | a :: b :: r => opt2 cAndV (c.v Γ a) (andC c Γ (b :: r))
def orC (c : Cs) (Γ : Cfg) : List Expr → Option Cl
  | [] => none
  | [a] => c.v Γ a
  | a :: b :: r => opt2 cOrV (c.v Γ a) (orC c Γ (b :: r))
def andT (c : Cs) (Γ : Cfg) : List Expr → Option Ct
  | [] => none
  | [a] => c.t Γ a
  | a :: b :: r => opt2 cAndT (c.t Γ a) (andT c Γ (b :: r))
def orT (c : Cs) (Γ : Cfg) : List Expr → Option Ct
  | [] => none
  | [a] => c.t Γ a
  | a :: b :: r => opt2 cOrT (c.t Γ a) (orT c Γ (b :: r))
def partC (c : Cs) (Γ : Cfg) : Option Expr → Option (Option Cl)
  | none => some none
  | some e => (bw c Γ e).map some
/-- the arguments of a call of range -/
def rangeArgs (Γ : Cfg) : Expr → Option (List Expr)
  | .Call (.Name x _) [a] [] _ => gd (decide (x = "range") && glOk Γ x && decide (x ∈ Γ.blt)) (some [a])
  | .Call (.Name x _) [a, b] [] _ => gd (decide (x = "range") && glOk Γ x && decide (x ∈ Γ.blt)) (some [a, b])
  | _ => none
def itOf (f : Cl) : Ci := fun ρ => (f ρ).bind itemsOf
def itRg (fs : List Cl) : Ci := fun ρ => (evs fs ρ).bind fun ps => (rgL ps).bind fun ab => if rgOk2 ab.1 ab.2 then some (rgP ab.1 ab.2) else none
def isTupE : Expr → Bool
  | .Tuple .. => true
  | _ => false
inductive ItA where
  | rng (es : List Expr) | enum (a : Expr) | zip (a b : Expr) | rev (a : Expr) | seq
def itArgs (Γ : Cfg) (tg e : Expr) : ItA := match rangeArgs Γ e with
  | some es => .rng es
  | none => match e with
    | .Call (.Name x _) [a] [] _ => if decide (x = "enumerate") && isTupE tg && glOk Γ x && decide (x ∈ Γ.blt) && notStar a then .enum a else if decide (x = "reversed") && glOk Γ x && decide (x ∈ Γ.blt) && notStar a then .rev a else .seq
    | .Call (.Name x _) [a, b] [] _ => if decide (x = "zip") && isTupE tg && glOk Γ x && decide (x ∈ Γ.blt) && notStar a && notStar b then .zip a b else .seq
    | _ => .seq
def itEn (f : Cl) : Ci := fun ρ => (f ρ).bind fun p => (seqT p).map enumP
def itZp (f g : Cl) : Ci := fun ρ => (f ρ).bind fun p => (g ρ).bind fun q => zipV p q
def itRv (f : Cl) : Ci := fun ρ => (f ρ).bind fun p => (seqT p).map List.reverse
/-- what is walked: frozen (v), or as it stands (b) -/
def iterV (c : Cs) (Γ : Cfg) (tg e : Expr) : Option Ci :=
  match itArgs Γ tg e with
  | .rng es => (rowB c Γ es).map itRg
  | .enum a => (c.v Γ a).map itEn
  | .zip a b => opt2 itZp (c.v Γ a) (c.v Γ b)
  | .rev a => (c.v Γ a).map itRv
  | .seq => (c.v Γ e).map itOf
def iterB (c : Cs) (Γ : Cfg) (tg e : Expr) : Option Ci :=
  match itArgs Γ tg e with
  | .rng es => (rowB c Γ es).map itRg
  | .enum a => (bw c Γ a).map itEn
  | .zip a b => opt2 itZp (bw c Γ a) (bw c Γ b)
  | .rev a => (bw c Γ a).map itRv
  | .seq => (bw c Γ e).map itOf
/-- targets: names and rows of names -/
def tgC (Γ : Cfg) : Nat → Expr → Option (Tg × List Nat)
  | _, .Name x _ => gd (storeOk Γ x) ((slotOf Γ.N x).map fun i => (gN i, [i]))
  | n + 1, .Tuple es _ _ => gd (es.all notStar) ((es.foldr (fun e (o : Option ((List PV → En → Option En) × List Nat)) => opt2 (fun (a : Tg × List Nat) b => (gsC a.1 b.1, a.2 ++ b.2)) (tgC Γ n e) o) (some (gsN, []))).map fun r => (gT r.1, r.2))
  | _, _ => none
def Ty.sn : Ty → Str
  | .int => "int"
  | .bool => "bool"
  | .str => "str"
  | .tuple => "tuple"
  | .list => "list"
  | .dict => "dict"
def tyOf (x : Str) : Option Ty := [Ty.int, .bool, .str, .tuple, .list, .dict].find? fun t => decide (t.sn = x)
theorem tyOf_boot {x : Str} {t : Ty} (h : tyOf x = some t) : bootBuiltins x = some (.type t.nm) := by
  have e : t.sn = x := of_decide_eq_true (List.find?_some (p := fun t : Ty => decide (t.sn = x)) h)
  rw [← e]
  cases t <;> decide +kernel
/-- built-in functions by name -/
inductive Blt where
  | len | int | abs | sum | all | any | sorted | min | max | tuple | list | isinstance
def Blt.nm : Blt → Str
  | .len => "len"
  | .int => "int"
  | .abs => "abs"
  | .sum => "sum"
  | .all => "all"
  | .any => "any"
  | .sorted => "sorted"
  | .min => "min"
  | .max => "max"
  | .tuple => "tuple"
  | .list => "list"
  | .isinstance => "isinstance"
def Blt.every : List Blt := [.len, .int, .abs, .sum, .all, .any, .sorted, .min, .max, .tuple, .list, .isinstance]
def bltOf (x : Str) : Option Blt := Blt.every.find? fun b => decide (b.nm = x)
theorem bltOf_nm {x : Str} {b : Blt} (h : bltOf x = some b) : x = b.nm := (of_decide_eq_true (List.find?_some (p := fun b : Blt => decide (b.nm = x)) h)).symm
def bltC (c : Cs) (Γ : Cfg) (b : Blt) (es : List Expr) : Option Cl := match b with
  | .len => (rowB c Γ es).map (cApp (g1 fun p => (lenV p).map PV.int))
  | .int => (rowB c Γ es).map (cApp (g1 intV))
  | .abs => (rowB c Γ es).map (cApp (g1 absV))
  | .sum => (rowB c Γ es).map (cApp (g1 sumV))
  | .all => (rowB c Γ es).map (cApp (g1 allV))
  | .any => (rowB c Γ es).map (cApp (g1 anyV))
  | .sorted => match es with
    | [.Call (.Name y _) [e] [] _] => if y = "set" then gd (glOk Γ "set" && decide (Str.ofString "set" ∈ Γ.blt) && notStar e) ((bw c Γ e).map cSw) else (rowB c Γ es).map (cApp (g1 sortedV))
    | _ => (rowB c Γ es).map (cApp (g1 sortedV))
  | .min => (rowB c Γ es).map (cApp minL)
  | .max => (rowB c Γ es).map (cApp maxL)
  | .tuple => match es with
    | [e] => match rangeArgs Γ e with
      | some as => (rowB c Γ as).map cTupRg
      | none => (rowB c Γ [e]).map (cApp (g1 tupleV))
    | _ => none
  | .list => match es with
    | [e] => match rangeArgs Γ e with
      | some as => (rowB c Γ as).map cLstRg
      | none => (rowB c Γ [e]).map (cApp (g1 listV))
    | _ => none
  | .isinstance => match es with
    | [e, .Name y _] => gd (glOk Γ y && decide (y ∈ Γ.blt) && notStar e) (opt2 cIsi (tyOf y) (bw c Γ e))
    | _ => none
/-- the scope of a comprehension's block -/
def blkCfg (Γ : Cfg) (scope : Scope) : Cfg := { Γ with sc := relS scope Γ.sc, fnc := fun x => scope.names.lookup x == some .cell }
/-- the own names of a block, with their slots -/
def ownOf (Γ : Cfg) (scope : Scope) : List (Str × Nat) := scope.names.filterMap fun y => match y.2 with
  | .local => (slotOf Γ.N y.1).map fun i => (y.1, i)
  | .cell => (slotOf Γ.N y.1).map fun i => (y.1, i)
  | _ => none
def ifsC (c : Cs) (Γ : Cfg) : List Expr → Option Ct
  | [] => some cYes
  | [e] => c.t Γ e
  | _ => none
def compC (c : Cs) (Γ : Cfg) (elt tg iter : Expr) (ifs : List Expr) (scope : Scope) : Option Cl :=
  gd (blkC Γ.N Γ.sc scope (ownOf Γ scope) && noSet iter)
    ((tgC (blkCfg Γ scope) 8 tg).bind fun g => gd (g.2.all fun i => decide (i ∈ (ownOf Γ scope).map (·.2)))
      (opt3 (fun it t f => cComp ((ownOf Γ scope).map (·.2)) g.1 it t f) (iterB c Γ tg iter) (ifsC c (blkCfg Γ scope) ifs) (c.v (blkCfg Γ scope) elt)))
def compC2 (c : Cs) (Γ : Cfg) (elt tg iter : Expr) (ifs : List Expr) (tg1 iter1 : Expr) (ifs1 : List Expr) (scope : Scope) : Option Cl :=
  gd (blkC Γ.N Γ.sc scope (ownOf Γ scope) && noSet iter && noSet iter1)
    ((tgC (blkCfg Γ scope) 8 tg).bind fun g => (tgC (blkCfg Γ scope) 8 tg1).bind fun g1 => gd ((g.2.all fun i => decide (i ∈ (ownOf Γ scope).map (·.2))) && (g1.2.all fun i => decide (i ∈ (ownOf Γ scope).map (·.2))))
      (opt3 (fun (it : Ci) (t : Ct) (r : Ci × Ct × Cl) => cComp2 ((ownOf Γ scope).map (·.2)) g.1 it t g1.2 g1.1 r.1 r.2.1 r.2.2) (iterB c Γ tg iter) (ifsC c (blkCfg Γ scope) ifs) (opt3 (fun i t f => (i, t, f)) (iterV c (blkCfg Γ scope) tg1 iter1) (ifsC c (blkCfg Γ scope) ifs1) (c.v (blkCfg Γ scope) elt))))
def isNameE : Expr → Bool
  | .Name .. => true
  | _ => false
def stepV (c : Cs) (Γ : Cfg) : Expr → Option Cl
  | .Constant (.int i) _ _ => some (cK (.int i))
  | .Constant (.bool i) _ _ => some (cK (.bl i))
  | .Constant .none _ _ => some (cK .non)
  | .Constant (.str i) _ _ => some (cK (.str i))
  | .Name x _ => gd (visOk Γ x) ((slotOf Γ.N x).map cVar)
  | .BinOp a op b _ => opt2 (cBin op) (bw c Γ a) (bw c Γ b)
  | .UnaryOp .Not a _ => (c.v Γ a).map cNotV
  | .UnaryOp .USub a _ => (bw c Γ a).map (cUn .USub)
  | .UnaryOp .Invert a _ => (bw c Γ a).map (cUn .Invert)
  | .BoolOp .And vs _ => andC c Γ vs
  | .BoolOp .Or vs _ => orC c Γ vs
  | .IfExp t a b _ => opt3 cIf (c.t Γ t) (c.v Γ a) (c.v Γ b)
  | .Compare a [op] [b] _ => gd (!behindInMarks op b) (opt2 (cCmp op) (bw c Γ a) (bw c Γ b))
  | .Compare a [op, op'] [b, d] _ => gd (!lastMarks [op, op'] [b, d]) (opt3 (cChain op op') (bw c Γ a) (bw c Γ b) (bw c Γ d))
  | .Tuple es _ _ => (rowV c Γ es).map cTup
  | .List es _ => (rowV c Γ es).map cLst
  | .Subscript a (.Slice lo hi none _) _ => opt3 cSl (bw c Γ a) (partC c Γ lo) (partC c Γ hi)
  | .Subscript a (.Slice lo hi (some st) _) _ => (stepI st).bind fun i => gd (decide (i ≠ 0) && decide (i ≠ 1)) (opt3 (fun f l h => cSt f l h i) (bw c Γ a) (partC c Γ lo) (partC c Γ hi))
  | .Subscript a b _ => gd (noSlice b) (opt2 cIx (bw c Γ a) (bw c Γ b))
  | .Call (.Name x _) (e :: es) [] _ => gd (glOk Γ x) (match Γ.fns.lookup x with
    | some g => (rowV c Γ (e :: es)).map (cApp g)
    | none => gd (decide (x ∈ Γ.blt)) ((bltOf x).bind fun b => bltC c Γ b (e :: es)))
  | .Call (.Attribute (.Constant (.str a) _ _) m apos) [e] [] pos => gd (decide (m = "join") && notStar e && (apos.endLine == pos.line)) ((bw c Γ e).map (cJoin a))
  | .Call (.Attribute o m apos) [e] [] pos => gd (decide (m = "index") && notStar e && (apos.endLine == pos.line) && isNameE o) (opt2 cIndex (bw c Γ o) (c.v Γ e))
  | .Call (.Attribute o m apos) [e, f] [] pos => gd (decide (m = "get") && notStar e && notStar f && (apos.endLine == pos.line) && isNameE o) (opt3 cDGet (bw c Γ o) (bw c Γ e) (c.v Γ f))
  | .Dict [] [] _ => some cDNew
  | .Dict [some k] [v] _ => opt2 cDict1 (c.v Γ k) (c.v Γ v)
  | .ListComp elt [⟨tg, iter, ifs, 0⟩] scope _ => compC c Γ elt tg iter ifs scope
  | .ListComp elt [⟨tg, iter, ifs, 0⟩, ⟨tg1, iter1, ifs1, 0⟩] scope _ => compC2 c Γ elt tg iter ifs tg1 iter1 ifs1 scope
  | _ => none
def plainT : Expr → Bool
  | .UnaryOp .Not _ _ => false
  | .BoolOp .. => false
  | .IfExp .. => false
  | .Compare .. => false
  | _ => true
def stepT (c : Cs) (Γ : Cfg) : Expr → Option Ct
  | .UnaryOp .Not a _ => (c.t Γ a).map cNotT
  | .BoolOp .And vs _ => andT c Γ vs
  | .BoolOp .Or vs _ => orT c Γ vs
  | .Compare a [op] [b] _ => gd (!behindInMarks op b) (opt2 (cCmpT op) (bw c Γ a) (bw c Γ b))
  | .Compare a [op, op'] [b, d] _ => gd (!lastMarks [op, op'] [b, d]) (opt3 (fun f g h => cTst (cChain op op' f g h)) (bw c Γ a) (bw c Γ b) (bw c Γ d))
  | e => gd (plainT e) ((bw c Γ e).map cTst)
def cs : Nat → Cs
  | 0 => ⟨fun _ _ => none, fun _ _ => none⟩
  | n + 1 => ⟨stepV (cs n), stepT (cs n)⟩
/-- whether a container that it gives is new -/
def isFr (Γ : Cfg) : Expr → Bool
  | .BinOp .. => true
  | .List .. => true
  | .ListComp .. => true
  | .Dict .. => true
  | .Subscript _ (.Slice ..) _ => true
  | .Call (.Name x _) _ _ _ => (Γ.fns.lookup x).isNone && (decide (x = "list") || decide (x = "sorted"))
  | _ => false
def tR (b : Bool) (K : PySem.W.Frag) (ρ : En) (p : PV) : TE := if b then tFr K ρ p else tE K ρ p
theorem tR_t {X : Cx} {e : Expr} {ρ : En} {p : PV} (h : PE X e (tFr X.K ρ p)) : PE X e (tR true X.K ρ p) := h
theorem tR_f {X : Cx} {e : Expr} {ρ : En} {p : PV} (h : PE X e (tE X.K ρ p)) : PE X e (tR false X.K ρ p) := h
theorem tR_v {X : Cx} {e : Expr} {ρ : En} {p : PV} {b : Bool} (h : PE X e (tR b X.K ρ p)) : PE X e (tE X.K ρ p) := by
  cases b
  · exact h
  · exact PE.val h
theorem tR_b {X : Cx} {e : Expr} {ρ : En} {p : PV} {b : Bool} (h : PE X e (tR b X.K ρ p)) : PE X e (tBw X.K ρ p) := (tR_v h).bw
structure Snd (c : Cs) : Prop where
  v : ∀ X Γ e f, Good Γ X → c.v Γ e = some f → ∀ ρ p, f ρ = some p → PE X e (tR (isFr Γ e) X.K ρ p)
  t : ∀ X Γ e f, Good Γ X → c.t Γ e = some f → ∀ ρ b, f ρ = some b → PT X e (tTs X.K ρ b)
section
variable {c : Cs} {Γ : Cfg} {X : Cx} {e a b : Expr} {es : List Expr} {f g : Cl} {fs : List Cl} {ρ : En} {p : PV} {ps : List PV}
theorem Snd.val (S : Snd c) (G : Good Γ X) (h : c.v Γ e = some f) (hf : f ρ = some p) : PE X e (tE X.K ρ p) := tR_v (S.v X Γ e f G h ρ p hf)
theorem Snd.bw (S : Snd c) (G : Good Γ X) (h : bw c Γ e = some f) (hf : f ρ = some p) : PE X e (tBw X.K ρ p) := by
  unfold Pi.bw at h
  split at h
  · obtain ⟨h1, h2⟩ := gd_eq h
    obtain ⟨i, h3, rfl⟩ := Option.map_eq_some_iff.mp h2
    exact s_varB (G.var h1 h3 _) hf
  · exact (S.val G h hf).bw
theorem Snd.rowV (S : Snd c) (G : Good Γ X) : ∀ {es : List Expr} {fs : List Cl} {ps : List PV}, rowV c Γ es = some fs → evs fs ρ = some ps → PA X es (tAs X.K ρ ps) ∧ es.all notStar = true
  | [], _, _, h, e => by
    cases h
    cases e
    exact ⟨a_nil, rfl⟩
  | e :: es, _, _, h, he => by
    obtain ⟨h1, h2⟩ := gd_eq h
    obtain ⟨f, fs, h3, h4, rfl⟩ := opt2_eq h2
    obtain ⟨p, h5, h6⟩ := Option.bind_eq_some_iff.mp he
    obtain ⟨ps, h7, rfl⟩ := Option.map_eq_some_iff.mp h6
    obtain ⟨q1, q2⟩ := Snd.rowV S G h4 h7
    exact ⟨a_cons h1 (S.val G h3 h5) q1, by rw [List.all_cons, h1, q2]; rfl⟩
theorem Snd.rowB (S : Snd c) (G : Good Γ X) : ∀ {es : List Expr} {fs : List Cl} {ps : List PV}, rowB c Γ es = some fs → evs fs ρ = some ps → PA X es (tAb X.K ρ ps) ∧ es.all notStar = true
  | [], _, _, h, e => by
    cases h
    cases e
    exact ⟨b_nil, rfl⟩
  | e :: es, _, _, h, he => by
    obtain ⟨h1, h2⟩ := gd_eq h
    obtain ⟨f, fs, h3, h4, rfl⟩ := opt2_eq h2
    obtain ⟨p, h5, h6⟩ := Option.bind_eq_some_iff.mp he
    obtain ⟨ps, h7, rfl⟩ := Option.map_eq_some_iff.mp h6
    obtain ⟨q1, q2⟩ := Snd.rowB S G h4 h7
    exact ⟨b_cons h1 (S.bw G h3 h5) q1, by rw [List.all_cons, h1, q2]; rfl⟩
theorem rangeArgs_eq (h : rangeArgs Γ e = some es) : ∃ pp pos, e = .Call (.Name "range" pp) es [] pos ∧ glOk Γ "range" = true ∧ ("range" : Str) ∈ Γ.blt ∧ (es.length = 1 ∨ es.length = 2) := by
  unfold rangeArgs at h
  split at h
  · obtain ⟨h1, h2⟩ := gd_eq h
    simp only [Bool.and_eq_true, decide_eq_true_eq] at h1
    cases h2
    obtain ⟨⟨rfl, h3⟩, h4⟩ := h1
    exact ⟨_, _, rfl, h3, h4, .inl rfl⟩
  · obtain ⟨h1, h2⟩ := gd_eq h
    simp only [Bool.and_eq_true, decide_eq_true_eq] at h1
    cases h2
    obtain ⟨⟨rfl, h3⟩, h4⟩ := h1
    exact ⟨_, _, rfl, h3, h4, .inr rfl⟩
  · cases h
theorem rgL_eq {ps : List PV} {ab : Int × Int} (h : rgL ps = some ab) : (ps = [.int ab.2] ∧ ab.1 = 0) ∨ ps = [.int ab.1, .int ab.2] := by
  unfold rgL at h
  split at h
  · cases h; exact .inl ⟨rfl, rfl⟩
  · cases h; exact .inr rfl
  · cases h
theorem evs_length : ∀ {fs : List Cl} {ps : List PV}, evs fs ρ = some ps → fs.length = ps.length
  | [], _, h => by cases h; rfl
  | f :: fs, _, h => by
    obtain ⟨p, h5, h6⟩ := Option.bind_eq_some_iff.mp h
    obtain ⟨ps, h7, rfl⟩ := Option.map_eq_some_iff.mp h6
    rw [List.length_cons, List.length_cons, evs_length h7]
theorem rowB_length : ∀ {es : List Expr} {fs : List Cl}, rowB c Γ es = some fs → es.length = fs.length
  | [], _, h => by cases h; rfl
  | e :: es, _, h => by
    obtain ⟨h1, h2⟩ := gd_eq h
    obtain ⟨f, fs, h3, h4, rfl⟩ := opt2_eq h2
    rw [List.length_cons, List.length_cons, rowB_length h4]
theorem Snd.one (S : Snd c) (G : Good Γ X) (h : Pi.rowB c Γ [e] = some fs) (he : evs fs ρ = some [p]) : PE X e (tBw X.K ρ p) ∧ notStar e = true := by
  obtain ⟨h1, h2⟩ := gd_eq h
  obtain ⟨f, gs, h3, h4, rfl⟩ := opt2_eq h2
  obtain ⟨q, h5, h6⟩ := Option.bind_eq_some_iff.mp he
  obtain ⟨ps, h7, h8⟩ := Option.map_eq_some_iff.mp h6
  cases h8
  exact ⟨S.bw G h3 h5, h1⟩
theorem Snd.two (S : Snd c) (G : Good Γ X) {q : PV} (h : Pi.rowB c Γ [a, b] = some fs) (he : evs fs ρ = some [p, q]) : PE X a (tBw X.K ρ p) ∧ PE X b (tBw X.K ρ q) ∧ notStar a = true ∧ notStar b = true := by
  obtain ⟨h1, h2⟩ := gd_eq h
  obtain ⟨f, gs, h3, h4, rfl⟩ := opt2_eq h2
  obtain ⟨q', h5, h6⟩ := Option.bind_eq_some_iff.mp he
  obtain ⟨ps, h7, h8⟩ := Option.map_eq_some_iff.mp h6
  cases h8
  obtain ⟨q1, q2⟩ := S.one G h4 h7
  exact ⟨S.bw G h3 h5, q1, h1, q2⟩
/-- a call of range, as a value's source -/
theorem Snd.range (S : Snd c) (G : Good Γ X) {ab : Int × Int} (h : rangeArgs Γ e = some es) (hr : Pi.rowB c Γ es = some fs) (he : evs fs ρ = some ps) (hl : rgL ps = some ab) : PRg X e (tRg X.K ρ ab.1 ab.2) ∧ notStar e = true := by
  obtain ⟨pp, pos, rfl, g1, g2, hn⟩ := rangeArgs_eq h
  have hl2 : es.length = ps.length := (rowB_length hr).trans (evs_length he)
  obtain ⟨gl, _, _⟩ := G.gl g1
  rcases rgL_eq hl with ⟨rfl, e0⟩ | rfl
  · match es, hl2 with
    | [a], _ =>
      obtain ⟨q1, q2⟩ := S.one G hr he
      rw [e0]
      exact ⟨s_rg1 gl (G.blt _ g2) q2 q1, rfl⟩
  · match es, hl2 with
    | [a, b], _ =>
      obtain ⟨q1, q2, q3, q4⟩ := S.two G hr he
      exact ⟨s_rg2 gl (G.blt _ g2) q3 q4 q1 q2, rfl⟩
theorem Snd.rangeIt (S : Snd c) (G : Good Γ X) {tg : Expr} {items : List PV} (h : rangeArgs Γ e = some es) (hr : Pi.rowB c Γ es = some fs) (he : itRg fs ρ = some items) : PI X tg e (tIt X.K ρ items) := by
  obtain ⟨ps, e1, he⟩ := Option.bind_eq_some_iff.mp he
  obtain ⟨ab, e2, he⟩ := Option.bind_eq_some_iff.mp he
  split at he
  · rename_i cc
    cases he
    obtain ⟨pp, pos, rfl, g1, g2, hn⟩ := rangeArgs_eq h
    have hl2 : es.length = ps.length := (rowB_length hr).trans (evs_length e1)
    obtain ⟨gl, _, _⟩ := G.gl g1
    obtain ⟨pa, ns⟩ := S.rowB G hr e1
    rcases rgL_eq e2 with ⟨rfl, e0⟩ | rfl
    · match es, hl2 with
      | [a], _ =>
        rw [e0] at cc ⊢
        exact i_rg1 gl (G.blt _ g2) (by simpa using ns) pa cc
    · match es, hl2 with
      | [a, b], _ =>
        have ns' : notStar a = true ∧ notStar b = true := by simpa using ns
        exact i_rg2 gl (G.blt _ g2) ns'.1 ns'.2 pa cc
  · cases he
theorem itArgs_rng {tg : Expr} (h : itArgs Γ tg e = .rng es) : rangeArgs Γ e = some es := by
  unfold itArgs at h
  split at h
  · rename_i es' h'
    cases h
    exact h'
  · split at h
    · split at h
      · cases h
      · split at h <;> cases h
    · split at h <;> cases h
    · cases h
theorem itArgs_enum {tg : Expr} (h : itArgs Γ tg e = .enum a) : ∃ elts kk tp pp pos, tg = .Tuple elts kk tp ∧ e = .Call (.Name "enumerate" pp) [a] [] pos ∧ glOk Γ "enumerate" = true ∧ ("enumerate" : Str) ∈ Γ.blt ∧ notStar a = true := by
  unfold itArgs at h
  split at h
  · cases h
  · split at h
    · split at h
      · rename_i x pp a' pos hc
        cases h
        simp only [Bool.and_eq_true, decide_eq_true_eq] at hc
        obtain ⟨⟨⟨⟨rfl, h1⟩, h2⟩, h3⟩, h4⟩ := hc
        cases tg <;> first | (cases h1; done) | exact ⟨_, _, _, _, _, rfl, rfl, h2, h3, h4⟩
      · split at h <;> cases h
    · split at h <;> cases h
    · cases h
theorem itArgs_rev {tg : Expr} (h : itArgs Γ tg e = .rev a) : ∃ pp pos, e = .Call (.Name "reversed" pp) [a] [] pos ∧ glOk Γ "reversed" = true ∧ ("reversed" : Str) ∈ Γ.blt ∧ notStar a = true := by
  unfold itArgs at h
  split at h
  · cases h
  · split at h
    · split at h
      · cases h
      · split at h
        · rename_i x pp a' pos _ hc
          cases h
          simp only [Bool.and_eq_true, decide_eq_true_eq] at hc
          obtain ⟨⟨⟨rfl, h2⟩, h3⟩, h4⟩ := hc
          exact ⟨_, _, rfl, h2, h3, h4⟩
        · cases h
    · split at h <;> cases h
    · cases h
theorem itArgs_zip {tg : Expr} (h : itArgs Γ tg e = .zip a b) : ∃ elts kk tp pp pos, tg = .Tuple elts kk tp ∧ e = .Call (.Name "zip" pp) [a, b] [] pos ∧ glOk Γ "zip" = true ∧ ("zip" : Str) ∈ Γ.blt ∧ notStar a = true ∧ notStar b = true := by
  unfold itArgs at h
  split at h
  · cases h
  · split at h
    · split at h
      · cases h
      · split at h <;> cases h
    · split at h
      · rename_i x pp a' b' pos hc
        cases h
        simp only [Bool.and_eq_true, decide_eq_true_eq] at hc
        obtain ⟨⟨⟨⟨⟨rfl, h1⟩, h2⟩, h3⟩, h4⟩, h5⟩ := hc
        cases tg <;> first | (cases h1; done) | exact ⟨_, _, _, _, _, rfl, rfl, h2, h3, h4, h5⟩
      · cases h
    · cases h
theorem Snd.iterV (S : Snd c) (G : Good Γ X) {tg : Expr} {it : Ci} {items : List PV} (h : iterV c Γ tg e = some it) (he : it ρ = some items) : PI X tg e (tIt X.K ρ items) := by
  unfold Pi.iterV at h
  split at h
  · rename_i es hes
    obtain ⟨fs, h1, rfl⟩ := Option.map_eq_some_iff.mp h
    exact S.rangeIt G (itArgs_rng hes) h1 he
  · rename_i a ha
    obtain ⟨f, h1, rfl⟩ := Option.map_eq_some_iff.mp h
    obtain ⟨elts, kk, tp, pp, pos, rfl, rfl, g1, g2, g3⟩ := itArgs_enum ha
    obtain ⟨p, h2, h3⟩ := Option.bind_eq_some_iff.mp he
    obtain ⟨l, h4, rfl⟩ := Option.map_eq_some_iff.mp h3
    exact i_enumV (G.gl g1).1 (G.blt _ g2) g3 (a_cons g3 (S.val G h1 h2) a_nil) h4
  · rename_i a b hab
    obtain ⟨f, g, h1, h1', rfl⟩ := opt2_eq h
    obtain ⟨elts, kk, tp, pp, pos, rfl, rfl, g1, g2, g3, g4⟩ := itArgs_zip hab
    obtain ⟨p, h2, h3⟩ := Option.bind_eq_some_iff.mp he
    obtain ⟨q, h4, h5⟩ := Option.bind_eq_some_iff.mp h3
    exact i_zipV (G.gl g1).1 (G.blt _ g2) g3 g4 (a_cons g3 (S.val G h1 h2) (a_cons g4 (S.val G h1' h4) a_nil)) h5
  · rename_i a ha
    obtain ⟨f, h1, rfl⟩ := Option.map_eq_some_iff.mp h
    obtain ⟨pp, pos, rfl, g1, g2, g3⟩ := itArgs_rev ha
    obtain ⟨p, h2, h3⟩ := Option.bind_eq_some_iff.mp he
    obtain ⟨l, h4, rfl⟩ := Option.map_eq_some_iff.mp h3
    exact i_revV (G.gl g1).1 (G.blt _ g2) g3 (S.val G h1 h2) h4
  · obtain ⟨f, h1, rfl⟩ := Option.map_eq_some_iff.mp h
    obtain ⟨p, h2, h3⟩ := Option.bind_eq_some_iff.mp he
    exact i_seq (S.val G h1 h2) h3
theorem i_seqB {tg : Expr} {items : List PV} (h : PE X e (tBw X.K ρ p)) (hi : itemsOf p = some items) : PI X tg e (tItB X.K ρ items) := by
  cases p <;> first | (cases hi; done) | skip
  · refine it_b (i_seq (p := .str _) (h.mono fun σ H Q ⟨B, F, st, k⟩ => ⟨B, F, st, fun v H' F' s r => k v H' F' s ?_⟩) hi)
    rw [r.str]
    exact .str _
  · exact it_b (i_seq (p := .tup _) (h.mono fun σ H Q ⟨B, F, st, k⟩ => ⟨B, F, st, fun v H' F' s r => k v H' F' s r.repT⟩) hi)
  · cases hi
    exact i_lstB h
theorem Snd.iterB (S : Snd c) (G : Good Γ X) {tg : Expr} {it : Ci} {items : List PV} (h : iterB c Γ tg e = some it) (he : it ρ = some items) : PI X tg e (tItB X.K ρ items) := by
  unfold Pi.iterB at h
  split at h
  · rename_i es hes
    obtain ⟨fs, h1, rfl⟩ := Option.map_eq_some_iff.mp h
    exact it_b (S.rangeIt G (itArgs_rng hes) h1 he)
  · rename_i a ha
    obtain ⟨f, h1, rfl⟩ := Option.map_eq_some_iff.mp h
    obtain ⟨elts, kk, tp, pp, pos, rfl, rfl, g1, g2, g3⟩ := itArgs_enum ha
    obtain ⟨p, h2, h3⟩ := Option.bind_eq_some_iff.mp he
    obtain ⟨l, h4, rfl⟩ := Option.map_eq_some_iff.mp h3
    exact i_enum (G.gl g1).1 (G.blt _ g2) g3 (b_cons g3 (S.bw G h1 h2) b_nil) h4
  · rename_i a b hab
    obtain ⟨f, g, h1, h1', rfl⟩ := opt2_eq h
    obtain ⟨elts, kk, tp, pp, pos, rfl, rfl, g1, g2, g3, g4⟩ := itArgs_zip hab
    obtain ⟨p, h2, h3⟩ := Option.bind_eq_some_iff.mp he
    obtain ⟨q, h4, h5⟩ := Option.bind_eq_some_iff.mp h3
    exact i_zip (G.gl g1).1 (G.blt _ g2) g3 g4 (b_cons g3 (S.bw G h1 h2) (b_cons g4 (S.bw G h1' h4) b_nil)) h5
  · rename_i a ha
    obtain ⟨f, h1, rfl⟩ := Option.map_eq_some_iff.mp h
    obtain ⟨pp, pos, rfl, g1, g2, g3⟩ := itArgs_rev ha
    obtain ⟨p, h2, h3⟩ := Option.bind_eq_some_iff.mp he
    obtain ⟨l, h4, rfl⟩ := Option.map_eq_some_iff.mp h3
    exact i_rev (G.gl g1).1 (G.blt _ g2) g3 (S.bw G h1 h2) h4
  · obtain ⟨f, h1, rfl⟩ := Option.map_eq_some_iff.mp h
    obtain ⟨p, h2, h3⟩ := Option.bind_eq_some_iff.mp he
    exact i_seqB (S.bw G h1 h2) h3
theorem tgC_ok (G : Good Γ X) : ∀ (n : Nat) (e : Expr) (r : Tg × List Nat), tgC Γ n e = some r → PG X e (uG X.K r.1 r.2) := by
  intro n
  induction n with
  | zero =>
    intro e r h
    unfold tgC at h
    split at h
    · obtain ⟨h1, h2⟩ := gd_eq h
      obtain ⟨i, h3, rfl⟩ := Option.map_eq_some_iff.mp h2
      obtain ⟨l1, l2⟩ := G.store h1
      exact g_name G.nd (by rw [G.N]; exact slotOf_get h3) l1 l2
    · rename_i hn
      cases hn
    · cases h
  | succ n ih =>
    intro e r h
    unfold tgC at h
    split at h
    · obtain ⟨h1, h2⟩ := gd_eq h
      obtain ⟨i, h3, rfl⟩ := Option.map_eq_some_iff.mp h2
      obtain ⟨l1, l2⟩ := G.store h1
      exact g_name G.nd (by rw [G.N]; exact slotOf_get h3) l1 l2
    · rename_i n' es k pos hn
      cases hn
      obtain ⟨h1, h2⟩ := gd_eq h
      obtain ⟨r', h3, rfl⟩ := Option.map_eq_some_iff.mp h2
      have key : ∀ (es : List Expr) (r' : (List PV → En → Option En) × List Nat), es.all notStar = true →
          es.foldr (fun e (o : Option ((List PV → En → Option En) × List Nat)) => opt2 (fun (a : Tg × List Nat) b => (gsC a.1 b.1, a.2 ++ b.2)) (tgC Γ n e) o) (some (gsN, [])) = some r' → PGs X es (uGs X.K r'.1 r'.2) ∧ gsLen r'.1 es.length := by
        intro es
        induction es with
        | nil =>
          intro r' _ h
          cases h
          exact ⟨gs_nil, gsN_len⟩
        | cons e es ih2 =>
          intro r' hs h
          rw [List.all_cons, Bool.and_eq_true] at hs
          rw [List.foldr_cons] at h
          obtain ⟨q, qs, e1, e2, rfl⟩ := opt2_eq h
          obtain ⟨i1, i2⟩ := ih2 qs hs.2 e2
          exact ⟨gs_cons hs.1 (ih e q e1) i1, gsC_len i2⟩
      obtain ⟨k1, k2⟩ := key es r' h1 h3
      exact g_tup G.calm h1 k2 k1
    · cases h
theorem own_ix : ∀ p ∈ ownOf Γ sc', Γ.N[p.2]? = some p.1 := by
  intro p hp
  unfold ownOf at hp
  obtain ⟨y, hy, e⟩ := List.mem_filterMap.mp hp
  split at e
  · obtain ⟨i, h1, rfl⟩ := Option.map_eq_some_iff.mp e
    exact slotOf_get h1
  · obtain ⟨i, h1, rfl⟩ := Option.map_eq_some_iff.mp e
    exact slotOf_get h1
  · cases e
theorem Good.blk (G : Good Γ X) (scope : Scope) (s : Shared) (H : Hp) (C : Addr) (cl : List (Str × Addr)) (fp : List Addr) : Good (blkCfg Γ scope) (X.blk s H scope (compEnvC scope cl C X.env) fp) where
  N := G.N
  nd := G.nd
  sc := by
    show relabel scope X.env = relS scope Γ.sc
    rw [← G.sc]
    rfl
  calm := G.calm
  xe := rfl
  fnc := rfl
  blt := G.blt
  fns := fun x g h => by
    obtain ⟨k, f, fd, pn, h1, h2, h3, h4, h5, h6⟩ := (G.fns x g h).ex
    exact ⟨k, f, fd, pn, h1, h2, h3, h4, h5, h6⟩
  units := G.units
theorem Snd.comp (S : Snd c) (G : Good Γ X) {elt tg iter : Expr} {ifs : List Expr} {scope : Scope} {pos : Pos} (h : compC c Γ elt tg iter ifs scope = some f) (hf : f ρ = some p) : PE X (.ListComp elt [⟨tg, iter, ifs, 0⟩] scope pos) (tFr X.K ρ p) := by
  unfold compC at h
  obtain ⟨h1, h2⟩ := gd_eq h
  obtain ⟨g, h3, h4⟩ := Option.bind_eq_some_iff.mp h2
  obtain ⟨h5, h6⟩ := gd_eq h4
  obtain ⟨it, t, fe, h7, h8, h9, rfl⟩ := opt3_eq h6
  obtain ⟨items, e1, hf⟩ := Option.bind_eq_some_iff.mp hf
  obtain ⟨l, e2, hf⟩ := Option.bind_eq_some_iff.mp hf
  split at hf
  · rename_i hz
    cases hf
    simp only [Bool.and_eq_true] at h1
    have ok : BlkOk X.N X.env.scope scope (ownOf Γ scope) := by
      rw [G.N, G.sc]
      exact blkOk_by h1.1
    have hv : ∀ i ∈ g.2, i ∈ (ownOf Γ scope).map (·.2) := fun i hi => of_decide_eq_true (List.all_eq_true.mp h5 i hi)
    refine s_comp G.calm G.nd ok hv (S.iterB G h7 e1) (fun s H C cl fp => tgC_ok (G.blk scope s H C cl fp) _ _ _ h3) (fun s H C cl fp => ?_) (fun s H C cl fp => mkE fun ρ p hp => S.val (G.blk scope s H C cl fp) h9 hp) h1.2 e2 hz
    unfold ifsC at h8
    split at h8
    · cases h8
      exact t_yes
    · exact t_one (mkT fun ρ b hb => S.t _ _ _ _ (G.blk scope s H C cl fp) h8 ρ b hb)
    · cases h8
  · cases hf
theorem Snd.ifs {Γ' : Cfg} {Y : Cx} (S : Snd c) (G : Good Γ' Y) {ifs : List Expr} {t : Ct} (h : ifsC c Γ' ifs = some t) : PTs Y ifs (uT Y.K t) := by
  unfold ifsC at h
  split at h
  · cases h
    exact t_yes
  · exact t_one (mkT fun ρ b hb => S.t _ _ _ _ G h ρ b hb)
  · cases h
theorem Snd.comp2 (S : Snd c) (G : Good Γ X) {elt tg iter tg1 iter1 : Expr} {ifs ifs1 : List Expr} {scope : Scope} {pos : Pos} (h : compC2 c Γ elt tg iter ifs tg1 iter1 ifs1 scope = some f) (hf : f ρ = some p) : PE X (.ListComp elt [⟨tg, iter, ifs, 0⟩, ⟨tg1, iter1, ifs1, 0⟩] scope pos) (tFr X.K ρ p) := by
  unfold compC2 at h
  obtain ⟨h1, h2⟩ := gd_eq h
  obtain ⟨g, h3, h4⟩ := Option.bind_eq_some_iff.mp h2
  obtain ⟨g1, h3', h4'⟩ := Option.bind_eq_some_iff.mp h4
  obtain ⟨h5, h6⟩ := gd_eq h4'
  obtain ⟨it, t, r, h7, h8, h9, rfl⟩ := opt3_eq h6
  obtain ⟨it1, t1, fe, h10, h11, h12, rfl⟩ := opt3_eq h9
  obtain ⟨items, e1, hf⟩ := Option.bind_eq_some_iff.mp hf
  obtain ⟨l, e2, hf⟩ := Option.bind_eq_some_iff.mp hf
  split at hf
  · rename_i hz
    cases hf
    simp only [Bool.and_eq_true] at h1 h5
    have ok : BlkOk X.N X.env.scope scope (ownOf Γ scope) := by
      rw [G.N, G.sc]
      exact blkOk_by h1.1.1
    have hv : ∀ i ∈ g.2, i ∈ (ownOf Γ scope).map (·.2) := fun i hi => of_decide_eq_true (List.all_eq_true.mp h5.1 i hi)
    have hv1 : ∀ i ∈ g1.2, i ∈ (ownOf Γ scope).map (·.2) := fun i hi => of_decide_eq_true (List.all_eq_true.mp h5.2 i hi)
    exact s_comp2 G.calm G.nd ok hv hv1 (S.iterB G h7 e1) (fun s H C cl fp => tgC_ok (G.blk scope s H C cl fp) _ _ _ h3) (fun s H C cl fp => S.ifs (G.blk scope s H C cl fp) h8) (fun s H C cl fp => mkI1 fun ρ items hi => S.iterV (G.blk scope s H C cl fp) h10 hi) (fun s H C cl fp => tgC_ok (G.blk scope s H C cl fp) _ _ _ h3') (fun s H C cl fp => S.ifs (G.blk scope s H C cl fp) h11) (fun s H C cl fp => mkE fun ρ p hp => S.val (G.blk scope s H C cl fp) h12 hp) h1.1.2 h1.2 e2 hz
  · cases hf
theorem Snd.and (S : Snd c) (G : Good Γ X) {pos : Pos} : ∀ (es : List Expr) (f : Cl) (ρ : En) (p : PV), andC c Γ es = some f → f ρ = some p → PE X (.BoolOp .And es pos) (tE X.K ρ p)
  | [], _, _, _, h, _ => by cases h
  | [a], f, ρ, p, h, hf => s_one (S.val G (show c.v Γ a = some f from h) hf)
  | a :: b :: r, f, ρ, p, h, hf => by
    obtain ⟨f1, f2, h1, h2, rfl⟩ := opt2_eq h
    obtain ⟨q, e1, hf⟩ := Option.bind_eq_some_iff.mp hf
    split at hf
    · exact s_andT (S.val G h1 e1) (Snd.and S G (b :: r) f2 ρ p h2 hf)
    · cases hf
      exact s_andF (S.val G h1 e1)
    · cases hf
theorem Snd.or (S : Snd c) (G : Good Γ X) {pos : Pos} : ∀ (es : List Expr) (f : Cl) (ρ : En) (p : PV), orC c Γ es = some f → f ρ = some p → PE X (.BoolOp .Or es pos) (tE X.K ρ p)
  | [], _, _, _, h, _ => by cases h
  | [a], f, ρ, p, h, hf => s_one (S.val G (show c.v Γ a = some f from h) hf)
  | a :: b :: r, f, ρ, p, h, hf => by
    obtain ⟨f1, f2, h1, h2, rfl⟩ := opt2_eq h
    obtain ⟨q, e1, hf⟩ := Option.bind_eq_some_iff.mp hf
    split at hf
    · cases hf
      exact s_orT (S.val G h1 e1)
    · exact s_orF (S.val G h1 e1) (Snd.or S G (b :: r) f2 ρ p h2 hf)
    · cases hf
theorem Snd.andT (S : Snd c) (G : Good Γ X) {pos : Pos} : ∀ (es : List Expr) (f : Ct) (ρ : En) (k : Bool), andT c Γ es = some f → f ρ = some k → PW X (.BoolOp .And es pos) (tTs X.K ρ k)
  | [], _, _, _, h, _ => by cases h
  | [a], f, ρ, k, h, hf => w_and1 (S.t X Γ a f G h ρ k hf)
  | a :: b :: r, f, ρ, k, h, hf => by
    obtain ⟨f1, f2, h1, h2, rfl⟩ := opt2_eq h
    obtain ⟨q, e1, hf⟩ := Option.bind_eq_some_iff.mp hf
    cases q with
    | true => exact w_andT (S.t X Γ a f1 G h1 ρ _ e1) (Snd.andT S G (b :: r) f2 ρ k h2 hf)
    | false =>
      cases hf
      exact w_andF (S.t X Γ a f1 G h1 ρ _ e1)
theorem Snd.orT (S : Snd c) (G : Good Γ X) {pos : Pos} : ∀ (es : List Expr) (f : Ct) (ρ : En) (k : Bool), orT c Γ es = some f → f ρ = some k → PW X (.BoolOp .Or es pos) (tTs X.K ρ k)
  | [], _, _, _, h, _ => by cases h
  | [a], f, ρ, k, h, hf => w_or1 (S.t X Γ a f G h ρ k hf)
  | a :: b :: r, f, ρ, k, h, hf => by
    obtain ⟨f1, f2, h1, h2, rfl⟩ := opt2_eq h
    obtain ⟨q, e1, hf⟩ := Option.bind_eq_some_iff.mp hf
    cases q with
    | false => exact w_orF (S.t X Γ a f1 G h1 ρ _ e1) (Snd.orT S G (b :: r) f2 ρ k h2 hf)
    | true =>
      cases hf
      exact w_orT (S.t X Γ a f1 G h1 ρ _ e1)
theorem Snd.part (S : Snd c) (G : Good Γ X) {o : Option Expr} {fo : Option Cl} {i : Option Int} (h : partC c Γ o = some fo) (he : evO fo ρ = some i) : PO X o (tO X.K ρ i) := by
  cases o with
  | none =>
    cases h
    cases he
    exact s_noPart
  | some e =>
    obtain ⟨f, h1, rfl⟩ := Option.map_eq_some_iff.mp h
    obtain ⟨p, h2, h3⟩ := Option.bind_eq_some_iff.mp he
    split at h3
    · cases h3
      exact s_part (S.bw G h1 h2)
    · cases h3
theorem notT {b : Bool} (h : (!b) = true) : b = false := by cases b <;> first | rfl | cases h
theorem Snd.blt (S : Snd c) (G : Good Γ X) {bl : Blt} {pp pos : Pos} (hg : glOk Γ bl.nm = true) (hb : bl.nm ∈ Γ.blt) (hn : Γ.fns.lookup bl.nm = none) (h : bltC c Γ bl (e :: es) = some f) (hf : f ρ = some p) :
    PE X (.Call (.Name bl.nm pp) (e :: es) [] pos) (tR (isFr Γ (.Call (.Name bl.nm pp) (e :: es) [] pos)) X.K ρ p) := by
  obtain ⟨gl, hd, hnm⟩ := G.gl hg
  have hm := G.blt _ hb
  have u65 : X.A.units + 65 < cLine := by have := G.units; omega
  have u70 : X.A.units + 70 < cLine := by have := G.units; omega
  have app : ∀ {es' : List Expr} {g : List PV → Option PV}, (Pi.rowB c Γ es').map (cApp g) = some f → ∃ ps, g ps = some p ∧ PA X es' (tAb X.K ρ ps) ∧ es'.all notStar = true := fun {es' g} h => by
    obtain ⟨fs, h1, rfl⟩ := Option.map_eq_some_iff.mp h
    obtain ⟨ps, h2, h3⟩ := Option.bind_eq_some_iff.mp hf
    obtain ⟨q1, q2⟩ := S.rowB G h1 h2
    exact ⟨ps, h3, q1, q2⟩
  have fr0 : ∀ {y : Str} {pos : Pos}, decide (y = "list") = false → decide (y = "sorted") = false → isFr Γ (.Call (.Name y pp) (e :: es) [] pos) = false := fun {y pos} h1 h2 => by
    show ((Γ.fns.lookup y).isNone && (decide (y = "list") || decide (y = "sorted"))) = false
    rw [h1, h2, Bool.or_false, Bool.and_false]
  have fr1 : ∀ {y : Str} {pos : Pos}, Γ.fns.lookup y = none → (decide (y = "list") || decide (y = "sorted")) = true → isFr Γ (.Call (.Name y pp) (e :: es) [] pos) = true := fun {y pos} h0 h1 => by
    show ((Γ.fns.lookup y).isNone && (decide (y = "list") || decide (y = "sorted"))) = true
    rw [h0, h1]
    rfl
  cases bl with
  | len =>
    obtain ⟨ps, h1, h2, h3⟩ := app h
    rw [fr0 (by decide +kernel) (by decide +kernel)]
    exact (s_blt ok_len gl hm (by decide +kernel) hnm hd h3 h2 h1).val
  | int =>
    obtain ⟨ps, h1, h2, h3⟩ := app h
    rw [fr0 (by decide +kernel) (by decide +kernel)]
    exact (s_ty ok_int gl hm (by decide +kernel) hnm hd h3 h2 h1).val
  | abs =>
    obtain ⟨ps, h1, h2, h3⟩ := app h
    rw [fr0 (by decide +kernel) (by decide +kernel)]
    exact (s_blt ok_abs gl hm (by decide +kernel) hnm hd h3 h2 h1).val
  | sum =>
    obtain ⟨ps, h1, h2, h3⟩ := app h
    rw [fr0 (by decide +kernel) (by decide +kernel)]
    exact (s_blt (ok_sum G.calm) gl hm (by decide +kernel) hnm hd h3 h2 h1).val
  | all =>
    obtain ⟨ps, h1, h2, h3⟩ := app h
    rw [fr0 (by decide +kernel) (by decide +kernel)]
    exact (s_blt (ok_all G.calm) gl hm (by decide +kernel) hnm hd h3 h2 h1).val
  | any =>
    obtain ⟨ps, h1, h2, h3⟩ := app h
    rw [fr0 (by decide +kernel) (by decide +kernel)]
    exact (s_blt (ok_any G.calm) gl hm (by decide +kernel) hnm hd h3 h2 h1).val
  | sorted =>
    rw [fr1 hn (by decide +kernel)]
    simp only [bltC] at h
    split at h
    · rename_i y py e0 pc heq
      cases heq
      split at h
      · rename_i ey
        subst ey
        obtain ⟨h1, h2⟩ := gd_eq h
        simp only [Bool.and_eq_true, decide_eq_true_eq] at h1
        obtain ⟨g, h4, rfl⟩ := Option.map_eq_some_iff.mp h2
        obtain ⟨q, h5, h6⟩ := Option.bind_eq_some_iff.mp hf
        obtain ⟨gly, hdy, hny⟩ := G.gl h1.1.1
        exact s_ssw gl hm gly (G.blt _ h1.1.2) (S.bw G h4 h5) h1.2 G.calm G.units h6
      · obtain ⟨ps, h1, h2, h3⟩ := app h
        exact s_blt (ok_sorted u70) gl hm (by decide +kernel) hnm hd h3 h2 h1
    · obtain ⟨ps, h1, h2, h3⟩ := app h
      exact s_blt (ok_sorted u70) gl hm (by decide +kernel) hnm hd h3 h2 h1
  | min =>
    obtain ⟨ps, h1, h2, h3⟩ := app h
    rw [fr0 (by decide +kernel) (by decide +kernel)]
    exact s_bltv (ok_min G.calm u70) gl hm (by decide +kernel) hnm hd h3 h2 h1
  | max =>
    obtain ⟨ps, h1, h2, h3⟩ := app h
    rw [fr0 (by decide +kernel) (by decide +kernel)]
    exact s_bltv (ok_max G.calm u70) gl hm (by decide +kernel) hnm hd h3 h2 h1
  | tuple =>
    rw [fr0 (by decide +kernel) (by decide +kernel)]
    simp only [bltC] at h
    split at h
    · rename_i e0 heq
      cases heq
      split at h
      · rename_i as hra
        obtain ⟨fs, h1, rfl⟩ := Option.map_eq_some_iff.mp h
        obtain ⟨ps, h2, h3⟩ := Option.bind_eq_some_iff.mp hf
        obtain ⟨ab, h4, h5⟩ := Option.bind_eq_some_iff.mp h3
        split at h5
        · rename_i cc
          cases h5
          obtain ⟨q1, q2⟩ := S.range G hra h1 h2 h4
          exact s_tupRg G.calm gl hm q2 q1 cc
        · cases h5
      · obtain ⟨ps, h1, h2, h3⟩ := app h
        exact (s_ty ok_tuple gl hm (by decide +kernel) hnm hd h3 h2 h1).val
    · cases h
  | list =>
    rw [fr1 hn (by decide +kernel)]
    simp only [bltC] at h
    split at h
    · rename_i e0 heq
      cases heq
      split at h
      · rename_i as hra
        obtain ⟨fs, h1, rfl⟩ := Option.map_eq_some_iff.mp h
        obtain ⟨ps, h2, h3⟩ := Option.bind_eq_some_iff.mp hf
        obtain ⟨ab, h4, h5⟩ := Option.bind_eq_some_iff.mp h3
        split at h5
        · rename_i cc
          cases h5
          obtain ⟨q1, q2⟩ := S.range G hra h1 h2 h4
          exact s_lstRg G.calm gl hm q2 q1 cc
        · cases h5
      · obtain ⟨ps, h1, h2, h3⟩ := app h
        exact s_ty ok_list gl hm (by decide +kernel) hnm hd h3 h2 h1
    · cases h
  | isinstance =>
    rw [fr0 (by decide +kernel) (by decide +kernel)]
    simp only [bltC] at h
    split at h
    · rename_i e0 y py heq
      cases heq
      obtain ⟨h1, h2⟩ := gd_eq h
      simp only [Bool.and_eq_true, decide_eq_true_eq] at h1
      obtain ⟨ty, g, h3, h4, rfl⟩ := opt2_eq h2
      obtain ⟨q, h5, rfl⟩ := Option.map_eq_some_iff.mp hf
      obtain ⟨gly, hdy, hny⟩ := G.gl h1.1.1
      exact s_isi gl hm gly (G.blt _ h1.1.2) (tyOf_boot h3) hny hdy h1.2 (S.bw G h4 h5)
    · cases h
theorem stepV_ok (S : Snd c) (G : Good Γ X) (h : stepV c Γ e = some f) (hf : f ρ = some p) : PE X e (tR (isFr Γ e) X.K ρ p) := by
  have u65 : X.A.units + 65 < cLine := by have := G.units; omega
  unfold stepV at h
  split at h
  · cases h; cases hf; exact s_const pe_int fun F => .int _
  · cases h; cases hf; exact s_const pe_bl fun F => .bl _
  · cases h; cases hf; exact s_const pe_non fun F => .non
  · cases h; cases hf; exact s_const pe_str fun F => .str _
  · obtain ⟨h1, h2⟩ := gd_eq h
    obtain ⟨i, h3, rfl⟩ := Option.map_eq_some_iff.mp h2
    exact s_var (G.var h1 h3 _) hf
  · obtain ⟨f1, f2, h1, h2, rfl⟩ := opt2_eq h
    obtain ⟨q1, e1, hf⟩ := Option.bind_eq_some_iff.mp hf
    obtain ⟨q2, e2, hf⟩ := Option.bind_eq_some_iff.mp hf
    exact s_bin _ (S.bw G h1 e1) (S.bw G h2 e2) hf
  · obtain ⟨f1, h1, rfl⟩ := Option.map_eq_some_iff.mp h
    obtain ⟨q1, e1, hf⟩ := Option.bind_eq_some_iff.mp hf
    split at hf
    · cases hf
      exact s_not (S.val G h1 e1)
    · cases hf
  · obtain ⟨f1, h1, rfl⟩ := Option.map_eq_some_iff.mp h
    obtain ⟨q1, e1, hf⟩ := Option.bind_eq_some_iff.mp hf
    exact (s_un _ (S.bw G h1 e1) hf).val
  · obtain ⟨f1, h1, rfl⟩ := Option.map_eq_some_iff.mp h
    obtain ⟨q1, e1, hf⟩ := Option.bind_eq_some_iff.mp hf
    exact (s_un _ (S.bw G h1 e1) hf).val
  · exact S.and G _ f ρ p h hf
  · exact S.or G _ f ρ p h hf
  · obtain ⟨t, f1, f2, h1, h2, h3, rfl⟩ := opt3_eq h
    obtain ⟨b, e1, hf⟩ := Option.bind_eq_some_iff.mp hf
    cases b with
    | true => exact s_ifT (S.t X Γ _ t G h1 ρ _ e1) (S.val G h2 hf)
    | false => exact s_ifF (S.t X Γ _ t G h1 ρ _ e1) (S.val G h3 hf)
  · obtain ⟨h0, h⟩ := gd_eq h
    obtain ⟨f1, f2, h1, h2, rfl⟩ := opt2_eq h
    obtain ⟨q1, e1, hf⟩ := Option.bind_eq_some_iff.mp hf
    obtain ⟨q2, e2, hf⟩ := Option.bind_eq_some_iff.mp hf
    obtain ⟨k, e3, rfl⟩ := Option.map_eq_some_iff.mp hf
    exact s_cmp u65 _ (S.bw G h1 e1) (S.bw G h2 e2) e3 (notT h0)
  · obtain ⟨h0, h⟩ := gd_eq h
    obtain ⟨f1, f2, f3, h1, h2, h3, rfl⟩ := opt3_eq h
    obtain ⟨q1, e1, hf⟩ := Option.bind_eq_some_iff.mp hf
    obtain ⟨q2, e2, hf⟩ := Option.bind_eq_some_iff.mp hf
    obtain ⟨k, e3, hf⟩ := Option.bind_eq_some_iff.mp hf
    have hm := notT h0
    cases k with
    | true =>
      obtain ⟨q3, e4, hf⟩ := Option.bind_eq_some_iff.mp hf
      obtain ⟨k, e5, rfl⟩ := Option.map_eq_some_iff.mp hf
      exact s_chainT u65 _ _ (S.bw G h1 e1) (S.bw G h2 e2) (S.bw G h3 e4) e3 e5 hm
    | false =>
      cases hf
      exact s_chainF u65 _ _ (S.bw G h1 e1) (S.bw G h2 e2) PE.any e3 hm
  · obtain ⟨fs, h1, rfl⟩ := Option.map_eq_some_iff.mp h
    obtain ⟨ps, e1, hf⟩ := Option.bind_eq_some_iff.mp hf
    split at hf
    · cases hf
      exact s_tup (S.rowV G h1 e1).1 (by assumption)
    · cases hf
  · obtain ⟨fs, h1, rfl⟩ := Option.map_eq_some_iff.mp h
    obtain ⟨ps, e1, hf⟩ := Option.bind_eq_some_iff.mp hf
    split at hf
    · cases hf
      exact s_lst (S.rowV G h1 e1).1 (by assumption)
    · cases hf
  · obtain ⟨f1, lo, hi, h1, h2, h3, rfl⟩ := opt3_eq h
    obtain ⟨q1, e1, hf⟩ := Option.bind_eq_some_iff.mp hf
    obtain ⟨l, e2, hf⟩ := Option.bind_eq_some_iff.mp hf
    obtain ⟨u, e3, hf⟩ := Option.bind_eq_some_iff.mp hf
    exact s_sl (S.bw G h1 e1) (S.part G h2 e2) (S.part G h3 e3) hf
  · obtain ⟨i, hi0, h⟩ := Option.bind_eq_some_iff.mp h
    obtain ⟨h0, h⟩ := gd_eq h
    simp only [Bool.and_eq_true, decide_eq_true_eq] at h0
    obtain ⟨f1, lo, hi, h1, h2, h3, rfl⟩ := opt3_eq h
    obtain ⟨q1, e1, hf⟩ := Option.bind_eq_some_iff.mp hf
    obtain ⟨l, e2, hf⟩ := Option.bind_eq_some_iff.mp hf
    obtain ⟨u, e3, hf⟩ := Option.bind_eq_some_iff.mp hf
    exact s_st (S.bw G h1 e1) (S.part G h2 e2) (S.part G h3 e3) (s_stepI hi0) h0.1 h0.2 hf
  · rename_i a b pos _ _
    obtain ⟨h0, h⟩ := gd_eq h
    obtain ⟨f1, f2, h1, h2, rfl⟩ := opt2_eq h
    obtain ⟨q1, e1, hf⟩ := Option.bind_eq_some_iff.mp hf
    obtain ⟨q2, e2, hf⟩ := Option.bind_eq_some_iff.mp hf
    have e3 : isFr Γ (.Subscript a b pos) = false := by
      cases b <;> first | rfl | (cases h0)
    rw [e3]
    exact s_ix u65 h0 (S.bw G h1 e1) (S.bw G h2 e2) hf
  · rename_i x pp e es pos
    obtain ⟨h0, h⟩ := gd_eq h
    split at h
    · rename_i g hg
      obtain ⟨fs, h1, rfl⟩ := Option.map_eq_some_iff.mp h
      obtain ⟨ps, e1, hf⟩ := Option.bind_eq_some_iff.mp hf
      obtain ⟨q1, q2⟩ := S.rowV G h1 e1
      obtain ⟨gl, hd, hnm⟩ := G.gl h0
      rw [show isFr Γ (.Call (.Name x pp) (e :: es) [] pos) = false by
        show ((Γ.fns.lookup x).isNone && _) = false
        rw [hg]
        rfl]
      exact s_call (G.fns _ _ hg) gl hd q2 q1 hf
    · rename_i hg
      obtain ⟨h1, h2⟩ := gd_eq h
      obtain ⟨bl, h3, h4⟩ := Option.bind_eq_some_iff.mp h2
      have ex := bltOf_nm h3
      subst ex
      exact S.blt G h0 (of_decide_eq_true h1) hg h4 hf
  · obtain ⟨h0, h9⟩ := gd_eq h
    clear h
    simp only [Bool.and_eq_true, decide_eq_true_eq] at h0
    obtain ⟨⟨rfl, h1⟩, h2⟩ := h0
    obtain ⟨f1, h3, rfl⟩ := Option.map_eq_some_iff.mp h9
    obtain ⟨q1, e1, hf⟩ := Option.bind_eq_some_iff.mp hf
    exact s_join (S.bw G h3 e1) h1 h2 hf
  · rename_i o m apos e pos _
    obtain ⟨h0, h9⟩ := gd_eq h
    clear h
    simp only [Bool.and_eq_true, decide_eq_true_eq] at h0
    obtain ⟨⟨⟨rfl, h1⟩, h2⟩, h3⟩ := h0
    obtain ⟨f1, f2, h4, h5, rfl⟩ := opt2_eq h9
    obtain ⟨q1, e1, hf⟩ := Option.bind_eq_some_iff.mp hf
    obtain ⟨q2, e2, hf⟩ := Option.bind_eq_some_iff.mp hf
    exact s_index (S.bw G h4 e1) (S.val G h5 e2) h1 h2 (by cases o <;> first | rfl | (cases h3)) hf
  · rename_i o m apos e f2 pos
    obtain ⟨h0, h9⟩ := gd_eq h
    clear h
    simp only [Bool.and_eq_true, decide_eq_true_eq] at h0
    obtain ⟨⟨⟨⟨rfl, h1⟩, h2⟩, h3⟩, h4⟩ := h0
    obtain ⟨f1, g1, g2, h5, h6, h7, rfl⟩ := opt3_eq h9
    obtain ⟨q1, e1, hf⟩ := Option.bind_eq_some_iff.mp hf
    obtain ⟨q2, e2, hf⟩ := Option.bind_eq_some_iff.mp hf
    obtain ⟨q3, e3, hf⟩ := Option.bind_eq_some_iff.mp hf
    refine s_dget2 u65 (S.bw G h5 e1) (S.bw G h6 e2) (S.val G h7 e3) ⟨by cases o <;> first | rfl | (cases h4), ?_, h3, ?_⟩ hf
    · rw [star_cons h1, star_cons h2]
      rfl
    · rw [star_cons h1, star_cons h2]
      rfl
  · cases h
    cases hf
    exact s_dnew
  · obtain ⟨f1, f2, h1, h2, rfl⟩ := opt2_eq h
    obtain ⟨q1, e1, hf⟩ := Option.bind_eq_some_iff.mp hf
    obtain ⟨q2, e2, hf⟩ := Option.bind_eq_some_iff.mp hf
    split at hf
    · rename_i hk
      cases hf
      exact s_dict1 u65 (S.val G h1 e1) (S.val G h2 e2) hk
    · cases hf
  · exact S.comp G h hf
  · exact S.comp2 G h hf
  · cases h
theorem plain_isTrue {e : Expr} (h : plainT e = true) (env : PySem.Env) (whole : Sem Value) : isTrue e env whole = (do let v ← whole; standAt e.pos; holding [v] (truthy v)) := by
  cases e with
  | UnaryOp op a pos => cases op <;> first | rfl | (cases h)
  | _ => first | rfl | (cases h)
theorem stepT_ok (S : Snd c) (G : Good Γ X) {t : Ct} {k : Bool} (h : stepT c Γ e = some t) (hf : t ρ = some k) : PT X e (tTs X.K ρ k) := by
  have u65 : X.A.units + 65 < cLine := by have := G.units; omega
  unfold stepT at h
  split at h
  · obtain ⟨f1, h1, rfl⟩ := Option.map_eq_some_iff.mp h
    obtain ⟨b, e1, rfl⟩ := Option.map_eq_some_iff.mp hf
    exact t_not (S.t X Γ _ f1 G h1 ρ _ e1)
  · exact (S.andT G _ t ρ k h hf).pt
  · exact (S.orT G _ t ρ k h hf).pt
  · obtain ⟨h0, h⟩ := gd_eq h
    obtain ⟨f1, f2, h1, h2, rfl⟩ := opt2_eq h
    obtain ⟨q1, e1, hf⟩ := Option.bind_eq_some_iff.mp hf
    obtain ⟨q2, e2, hf⟩ := Option.bind_eq_some_iff.mp hf
    exact t_cmp u65 _ (S.bw G h1 e1) (S.bw G h2 e2) hf (notT h0)
  · obtain ⟨h0, h⟩ := gd_eq h
    obtain ⟨f1, f2, f3, h1, h2, h3, rfl⟩ := opt3_eq h
    obtain ⟨r, er, hf⟩ := Option.bind_eq_some_iff.mp hf
    obtain ⟨q1, e1, er⟩ := Option.bind_eq_some_iff.mp er
    obtain ⟨q2, e2, er⟩ := Option.bind_eq_some_iff.mp er
    obtain ⟨k', e3, er⟩ := Option.bind_eq_some_iff.mp er
    have hm := notT h0
    cases k' with
    | true =>
      obtain ⟨q3, e4, er⟩ := Option.bind_eq_some_iff.mp er
      obtain ⟨k2, e5, rfl⟩ := Option.map_eq_some_iff.mp er
      cases hf
      exact t_chainT u65 _ _ (S.bw G h1 e1) (S.bw G h2 e2) (S.bw G h3 e4) e3 e5 hm
    | false =>
      cases er
      cases hf
      exact t_chainF u65 _ _ (S.bw G h1 e1) (S.bw G h2 e2) PE.any e3 hm
  · obtain ⟨h0, h⟩ := gd_eq h
    obtain ⟨f1, h1, rfl⟩ := Option.map_eq_some_iff.mp h
    obtain ⟨q1, e1, hf⟩ := Option.bind_eq_some_iff.mp hf
    exact t_tst (S.bw G h1 e1) hf (plain_isTrue h0 _)
theorem snd : ∀ n, Snd (cs n)
  | 0 => ⟨fun _ _ _ _ _ h => (by cases h), fun _ _ _ _ _ h => (by cases h)⟩
  | n + 1 => ⟨fun X Γ e f G h ρ p hf => stepV_ok (snd n) G h hf, fun X Γ e f G h ρ b hf => stepT_ok (snd n) G h hf⟩
end
end Pi

/-! Pi 10: statements by pure closures. -/
namespace Pi
open PySem PySem.Spec PyProof.Rows L2

inductive Fl where
  | nx | bk | ct | rt (p : PV)
  deriving Inhabited
abbrev Cst := En → Option (En × Fl)
section
variable (K : PySem.W.Frag)
def Fin (B : Bs) (D : Ends) (ρ' : En) : Fl → Prop
  | .nx => ∀ σ' H' F', StR K B ρ' σ' H' F' → D.nx σ' H'
  | .bk => ∀ σ' H' F', StR K B ρ' σ' H' F' → D.bk σ' H'
  | .ct => ∀ σ' H' F', StR K B ρ' σ' H' F' → D.ct σ' H'
  | .rt p => ∀ v H' F', Stp B.F B.H F' H' → Rep K F' p v → D.rt v H'
def uS (f : Cst) : TS := fun D σ H => ∃ B F ρ ρ' fl, StR K B ρ σ H F ∧ f ρ = some (ρ', fl) ∧ Fin K B D ρ' fl
end
section
variable {X : Cx} {e a b c : Expr} {ρ : En} {p q r : PV} {pos : Pos} {st : Stmt} {sts : List Stmt} {f g : Cst}
theorem StR.base {K : PySem.W.Frag} {B : Bs} {ρ : En} {σ : L2.St} {H F : Hp} (s : StR K B ρ σ H F) : Stp B.F B.H F H := ⟨s.hb, s.fb, s.fh, s.fn⟩
def cSkip : Cst := fun ρ => some (ρ, .nx)
def cBrk : Cst := fun ρ => some (ρ, .bk)
def cCnt : Cst := fun ρ => some (ρ, .ct)
def cSeq (f g : Cst) : Cst := fun ρ => (f ρ).bind fun r => match r.2 with
  | .nx => g r.1
  | _ => some r
theorem S_pass : PS X (.Pass pos) (uS X.K cSkip) := ps_pass.mono fun D σ H ⟨B, F, ρ, ρ', fl, s, e, k⟩ => by
  cases e
  exact k σ H F s
theorem S_brk : PS X (.Break pos) (uS X.K cBrk) := ps_break.mono fun D σ H ⟨B, F, ρ, ρ', fl, s, e, k⟩ => by
  cases e
  exact k σ H F s
theorem S_cnt : PS X (.Continue pos) (uS X.K cCnt) := ps_continue.mono fun D σ H ⟨B, F, ρ, ρ', fl, s, e, k⟩ => by
  cases e
  exact k σ H F s
theorem S_nil : PSs X [] (uS X.K cSkip) := pss_nil.mono fun D σ H ⟨B, F, ρ, ρ', fl, s, e, k⟩ => by
  cases e
  exact k σ H F s
theorem S_cons (h1 : PS X st (uS X.K f)) (h2 : PSs X sts (uS X.K g)) : PSs X (st :: sts) (uS X.K (cSeq f g)) :=
  (pss_cons h1 h2).mono fun D σ H ⟨B, F, ρ, ρ', fl, s, e, k⟩ => by
    obtain ⟨⟨ρ1, f1⟩, e1, e2⟩ := Option.bind_eq_some_iff.mp e
    refine ⟨B, F, ρ, ρ1, f1, s, e1, ?_⟩
    cases f1 with
    | nx => exact fun σ' H' F' s' => ⟨B, F', ρ1, ρ', fl, s', e2, k⟩
    | bk => cases e2; exact k
    | ct => cases e2; exact k
    | rt p => cases e2; exact k
/-- own things frozen: they may be shared from here on, and are changed no more -/
def frz : List Nat → En → En
  | [], ρ => ρ
  | i :: is, ρ => frz is (match ρ[i]? with
    | some (.own p) => ρ.set i (.val p)
    | _ => ρ)
theorem StR.frz1 {K : PySem.W.Frag} {B : Bs} {ρ : En} {σ : L2.St} {H F : Hp} (s : StR K B ρ σ H F) {i : Nat} {p : PV} (e : ρ[i]? = some (.own p)) : ∃ F', StR K B (ρ.set i (.val p)) σ H F' := by
  obtain ⟨a, ea, nf, o, ho, ro⟩ := s.sl i _ e
  have hil : i < ρ.length := (List.getElem?_eq_some_iff.mp e).1
  have hσ : σ.set i (some (.ref a)) = σ := by
    refine List.ext_getElem? fun j => ?_
    by_cases hj : i = j
    · subst hj
      rw [List.getElem?_set_self (by rw [← s.len]; exact hil), ea]
    · rw [List.getElem?_set_ne hj]
  have hff : Same F (upd F a o) := same_upd nf
  -- the other slots with a more frozen
  have s2 : StR K B (ρ.set i .un) σ H (upd F a o) := by
    have s1 := s.setUn i (some (.ref a))
    rw [hσ] at s1
    refine ⟨s1.len, fun b x q => ?_, s1.hb, s1.fb.trans hff, fun b x q => ?_, fun j x q => ?_, s1.ob, s1.dj⟩
    · by_cases hb : b = a
      · subst hb; rw [upd_same] at q; cases q; exact ho
      · rw [upd_ne hb] at q; exact s.fh b x q
    · by_cases hb : b = a
      · subst hb; exact .inr (s.ob i p b e ea)
      · rw [upd_ne hb] at q; exact s.fn b x q
    · have z := s1.sl j x q
      cases x with
      | un => trivial
      | val p' =>
        obtain ⟨v, e1, r1⟩ := z
        exact ⟨v, e1, r1.mono hff⟩
      | own p' =>
        obtain ⟨b, e1, n1, o1, h1, r1⟩ := z
        refine ⟨b, e1, ?_, o1, h1, r1.mono hff⟩
        rw [upd_ne, n1]
        rintro rfl
        rcases get_set_val q with ⟨_, z, _⟩ | ⟨nj, q⟩
        · cases z
        · exact nj (s.dj j i p' p b q e e1 ea)
  have s3 := s2.setVal (i := i) (p := p) (v := .ref a) (ro.mono hff |>.rep upd_same)
  rw [hσ, List.set_set] at s3
  exact ⟨_, s3⟩
theorem StR.frz {K : PySem.W.Frag} {B : Bs} : ∀ (is : List Nat) {ρ : En} {σ : L2.St} {H F : Hp}, StR K B ρ σ H F → ∃ F', StR K B (Pi.frz is ρ) σ H F'
  | [], ρ, σ, H, F, s => ⟨F, s⟩
  | i :: is, ρ, σ, H, F, s => by
    unfold Pi.frz
    split
    · obtain ⟨F', s'⟩ := s.frz1 (by assumption)
      exact StR.frz is s'
    · exact StR.frz is s
def cFz (is : List Nat) (f : Cst) : Cst := fun ρ => f (frz is ρ)
theorem S_fz (is : List Nat) (h : PS X st (uS X.K f)) : PS X st (uS X.K (cFz is f)) := h.mono fun D σ H ⟨B, F, ρ, ρ', fl, s, e, k⟩ => by
  obtain ⟨F', s'⟩ := s.frz is
  exact ⟨B, F', _, ρ', fl, s', e, k⟩

/-! ### expressions as statements, return -/
def cRet (f : Cl) : Cst := fun ρ => (f ρ).map fun p => (ρ, .rt p)
def cRetN : Cst := fun ρ => some (ρ, .rt .non)
theorem S_ret {f : Cl} (h : ∀ ρ p, f ρ = some p → PE X e (tE X.K ρ p)) : PS X (.Return (some e) pos) (uS X.K (cRet f)) :=
  ⟨fun pins s σ H D I ⟨B, F, ρ, ρ', fl, st, e, k⟩ => by
    obtain ⟨p, e1, e2⟩ := Option.map_eq_some_iff.mp e
    cases e2
    exact (ps_ret (h ρ p e1)).run pins s σ H D I ⟨B, F, st, fun v H1 F1 s1 r => k v H1 F1 (st.step s1).base r⟩⟩
theorem S_retN : PS X (.Return none pos) (uS X.K cRetN) := ps_retN.mono fun D σ H ⟨B, F, ρ, ρ', fl, st, e, k⟩ => by
  cases e
  exact k _ H F st.base .non
/-- what is handed back may be one's own: it is frozen on the way -/
theorem S_retVar {i : Nat} (h : PE X e (tVar i)) : PS X (.Return (some e) pos) (uS X.K (cRet (cVarB i))) :=
  ⟨fun pins s σ H D I ⟨B, F, ρ, ρ', fl, st, e, k⟩ => by
    obtain ⟨p, e1, e2⟩ := Option.map_eq_some_iff.mp e
    cases e2
    refine (ps_ret h).run pins s σ H D I ?_
    unfold cVarB at e1
    split at e1
    · rename_i es
      cases e1
      obtain ⟨v, ev, r⟩ := st.sl i _ es
      exact ⟨v, ev, k v H F st.base r⟩
    · rename_i es
      cases e1
      obtain ⟨a, ev, o⟩ := st.sl i _ es
      obtain ⟨F2, s2, _, r2⟩ := o.freeze st.base (st.ob i _ a es ev)
      exact ⟨_, ev, k _ H F2 s2 r2⟩
    · cases e1⟩

/-! ### stores -/
def cAsgV (i : Nat) (f : Cl) : Cst := fun ρ => (f ρ).map fun p => (ρ.set i (.val p), .nx)
def cAsgF (i : Nat) (f : Cl) : Cst := fun ρ => (f ρ).map fun p => (ρ.set i (if p.isCont then .own p else .val p), .nx)
theorem R_asgV {K : PySem.W.Frag} {B : Bs} {D : Ends} {i : Nat} {ρ : En} {p : PV} {σ : L2.St} {H F : Hp} (st : StR K B ρ σ H F) (k : Fin K B D (ρ.set i (.val p)) .nx) : tE K ρ p σ H fun v H1 => D.nx (σ.set i (some v)) H1 :=
  ⟨B, F, st, fun v H1 F1 s1 r => k _ H1 F1 ((st.step s1).setVal r)⟩
theorem R_asgF {K : PySem.W.Frag} {B : Bs} {D : Ends} {i : Nat} {ρ : En} {p : PV} {σ : L2.St} {H F : Hp} (st : StR K B ρ σ H F) (k : Fin K B D (ρ.set i (if p.isCont then .own p else .val p)) .nx) : tFr K ρ p σ H fun v H1 => D.nx (σ.set i (some v)) H1 :=
  ⟨B, F, st, fun v H1 F1 s1 r => by
    unfold RelFr at r
    split at r
    · rename_i c
      rw [if_pos c] at k
      obtain ⟨a, rfl, n, o⟩ := r
      obtain ⟨n1, n2⟩ := st.fresh n
      exact k _ H1 F1 ((st.step s1).setOwn o n1 n2)
    · rename_i c
      rw [if_neg c] at k
      exact k _ H1 F1 ((st.step s1).setVal r)⟩
/-- a statement that stores what an expression gives, whatever its place in the machine -/
theorem S_store {stm : Stmt} {i : Nat} {fr : Bool} {f : Cl} (h : ∀ (t : TE), PE X e t → PS X stm (tAsg t (gName i))) (he : ∀ ρ p, f ρ = some p → PE X e (tR fr X.K ρ p)) : PS X stm (uS X.K (if fr then cAsgF i f else cAsgV i f)) :=
  ⟨fun pins s σ H D I ⟨B, F, ρ, ρ', fl, st, e, k⟩ => by
    cases fr with
    | true =>
      obtain ⟨p, e1, e2⟩ := Option.map_eq_some_iff.mp e
      cases e2
      exact (h _ (he ρ p e1)).run pins s σ H D I (R_asgF st k)
    | false =>
      obtain ⟨p, e1, e2⟩ := Option.map_eq_some_iff.mp e
      cases e2
      exact (h _ (he ρ p e1)).run pins s σ H D I (R_asgV st k)⟩
/-- targets in general: what is stored is a value -/
def uGH (K : PySem.W.Frag) (g : Tg) : TG := fun v σ H Q => ∃ B F ρ p ρ', StR K B ρ σ H F ∧ Rep K F p v ∧ g p ρ = some ρ' ∧ ∀ σ' H' F', StR K B ρ' σ' H' F' → Same F F' → Q σ' H'
def uGHs (K : PySem.W.Frag) (g : List PV → En → Option En) : TGs := fun xs σ H Q => ∃ B F ρ ps ρ', StR K B ρ σ H F ∧ Reps K F ps xs ∧ g ps ρ = some ρ' ∧ ∀ σ' H' F', StR K B ρ' σ' H' F' → Same F F' → Q σ' H'
theorem gh_of {g : Tg} {vs : List Nat} (h : PG X e (uG X.K g vs)) : PG X e (uGH X.K g) := h.mono fun v σ H Q ⟨B, F, ρ, p, ρ', st, r, e, k⟩ => ⟨B, F, ρ, p, ρ', st, r, e, fun σ' st' _ => k σ' H F st' (Same.refl F)⟩
def cTgA (g : Tg) (f : Cl) : Cst := fun ρ => (f ρ).bind fun p => (g p ρ).map fun ρ' => (ρ', .nx)
theorem S_tg {stm : Stmt} {tg : Expr} {g : Tg} {f : Cl} (h : ∀ (t : TE), PE X e t → PS X stm (tAsg t (uGH X.K g))) (he : ∀ ρ p, f ρ = some p → PE X e (tE X.K ρ p)) : PS X stm (uS X.K (cTgA g f)) :=
  ⟨fun pins s σ H D I ⟨B, F, ρ, ρ', fl, st, e, k⟩ => by
    obtain ⟨p, e1, e2⟩ := Option.bind_eq_some_iff.mp e
    obtain ⟨ρ1, e3, e4⟩ := Option.map_eq_some_iff.mp e2
    cases e4
    exact (h _ (he ρ p e1)).run pins s σ H D I ⟨B, F, st, fun v H1 F1 s1 r => ⟨B, F1, ρ, p, _, st.step s1, r, e3, fun σ' H' F' st' _ => k σ' H' F' st'⟩⟩⟩
theorem ghs_nil : PGs X [] (uGHs X.K gsN) := ⟨fun pins s σ H xs us Q I r ⟨B, F, ρ, ps, ρ', st, rr, e, k⟩ => pgs_nil.run pins s σ H xs us Q I r (by
  unfold gsN at e
  split at e
  · cases e
    cases rr
    exact ⟨rfl, k σ H F st (Same.refl F)⟩
  · cases e)⟩
theorem ghs_cons {es : List Expr} {g : Tg} {gs : List PV → En → Option En} (ns : notStar e = true) (h1 : PG X e (uGH X.K g)) (h2 : PGs X es (uGHs X.K gs)) : PGs X (e :: es) (uGHs X.K (gsC g gs)) :=
  ⟨fun pins s σ H xs us Q I r ⟨B, F, ρ, ps, ρ', st, rr, e, k⟩ => (pgs_cons h1 h2 (by rw [assign_cons ns]; rfl)).run pins s σ H xs us Q I r (by
    unfold gsC at e
    split at e
    · rename_i p ps
      obtain ⟨ρ1, e1, e2⟩ := Option.bind_eq_some_iff.mp e
      cases rr with
      | cons r0 rs => exact ⟨_, _, rfl, B, F, ρ, p, ρ1, st, r0, e1, fun σ1 H1 F1 st1 s1 => ⟨B, F1, ρ1, ps, ρ', st1, rs.mono s1, e2, fun σ2 H2 F2 st2 s2 => k σ2 H2 F2 st2 (s1.trans s2)⟩⟩
    · cases e)⟩
theorem gh_tup {es : List Expr} {gs : List PV → En → Option En} {kk : Nat} (hc : X.calm = true) (ns : es.all notStar = true) (hl : gsLen gs es.length) (h : PGs X es (uGHs X.K gs)) : PG X (.Tuple es kk pos) (uGH X.K (gT gs)) := by
  obtain ⟨h1, h2⟩ := assign_len X.env ns
  refine ((pg_tup hc h h1 h2).or (pg_unl hc h h1 h2)).mono fun v σ H Q ⟨B, F, ρ, p, ρ', st, r, e, k⟩ => ?_
  unfold gT at e
  split at e
  · cases r with
    | tup ha ra => exact .inl ⟨_, _, rfl, sqT_mono st.fh ha, by rw [← ra.length, hl _ _ _ e], B, F, ρ, _, ρ', st, ra, e, k⟩
  · cases r with
    | lst ha ra => exact .inr ⟨_, _, rfl, .of (st.fh _ _ ha), by rw [← ra.length, hl _ _ _ e], B, F, ρ, _, ρ', st, ra, e, k⟩
  · cases e
/-- an own object is written -/
theorem StR.write {K : PySem.W.Frag} {B : Bs} {ρ : En} {σ : L2.St} {H F : Hp} (st : StR K B ρ σ H F) {i : Nat} {p p' : PV} {a : Addr} {o : HO} (e : ρ[i]? = some (.own p)) (ea : σ[i]? = some (some (.ref a))) (r : RepO K F p' o) : StR K B (ρ.set i (.own p')) σ (upd H a o) F := by
  obtain ⟨b, eb, nf, o0, ho, ro⟩ := st.sl i _ e
  rw [ea] at eb
  cases eb
  have hil : i < ρ.length := (List.getElem?_eq_some_iff.mp e).1
  have ha := st.ob i p a e ea
  refine ⟨by rw [List.length_set]; exact st.len, fun b x q => ?_, fun b x q => ?_, st.fb, st.fn, fun j x q => ?_, fun j q' b q h => ?_, fun j k q1 q2 b h1 h2 h3 h4 => ?_⟩
  · rw [upd_ne (ne_of_none q nf)]
    exact st.fh b x q
  · rw [upd_ne (ne_of_none q ha)]
    exact st.hb b x q
  · rcases get_set_val q with ⟨rfl, rfl, _⟩ | ⟨n, q⟩
    · exact ⟨a, ea, nf, o, upd_same, r⟩
    · have z := st.sl j x q
      cases x with
      | un => trivial
      | val p1 => exact z
      | own p1 =>
        obtain ⟨b, e1, n1, o1, h1, r1⟩ := z
        refine ⟨b, e1, n1, o1, ?_, r1⟩
        rw [upd_ne, h1]
        rintro rfl
        exact n (st.dj j i p1 p b q e e1 ea)
  · rcases get_set_val q with ⟨rfl, z, _⟩ | ⟨n, q⟩
    · exact st.ob j p b e h
    · exact st.ob j q' b q h
  · have g : ∀ {j : Nat} {q : PV}, (ρ.set i (.own p'))[j]? = some (.own q) → ∃ q', ρ[j]? = some (.own q') := fun {j q} h => by
      rcases get_set_val h with ⟨rfl, _, _⟩ | ⟨_, h⟩
      · exact ⟨p, e⟩
      · exact ⟨q, h⟩
    obtain ⟨q1', h1⟩ := g h1
    obtain ⟨q2', h2⟩ := g h2
    exact st.dj j k q1' q2' b h1 h2 h3 h4
/-- x[i] = v, x one's own list or dict -/
def cSubL (i : Nat) (ix : Cl) : Tg := fun p ρ => match ρ[i]? with
  | some (.own (.lst l)) => (ix ρ).bind fun q => match q with
    | .int k => (ixN l.length k).map fun j => ρ.set i (.own (.lst (l.set j p)))
    | _ => none
  | some (.own (.dic kvs)) => (ix ρ).bind fun q => if isKey q && decide (kvs.length < sizeLine) then some (ρ.set i (.own (.dic (putP kvs q p)))) else none
  | _ => none
theorem gh_subL {i : Nat} {ix : Cl} {o : Expr} (hu : X.A.units + 65 < cLine) (ho : PE X o (tVar i)) (hi : ∀ ρ p, ix ρ = some p → PE X e (tBw X.K ρ p)) (ha : ∀ v, assign (.Subscript o e pos) X.env v = (do
      let ov ← holding [v] (eval o X.env)
      let iv ← holding [v, ov] (eval e X.env)
      standAt pos
      holding [v, ov, iv] (setItem ov iv v)
      release [v, ov, iv] [])) : PG X (.Subscript o e pos) (uGH X.K (cSubL i ix)) :=
  (pg_sub ho (mkB hi) (set_both hu) ha).mono fun v σ H Q ⟨B, F, ρ, p, ρ', st, r, e, k⟩ => by
    unfold cSubL at e
    split at e
    · rename_i l es
      obtain ⟨q, e1, e2⟩ := Option.bind_eq_some_iff.mp e
      split at e2
      · rename_i kk
        obtain ⟨j, e3, rfl⟩ := Option.map_eq_some_iff.mp e2
        obtain ⟨a, ea, nf, o, ho, ro⟩ := st.sl i _ es
        cases o <;> first | exact ro.elim | skip
        rename_i xs
        refine ⟨_, ea, ρ, _, e1, B, F, st, fun y H1 F1 s1 ry => .inl ?_⟩
        cases ry.int
        have st1 := st.step s1
        refine ⟨a, xs, kk, j, rfl, rfl, s1.hh _ _ ho, by rw [← Reps.length ro]; exact e3, k σ _ F1 (st1.write es ea ?_) s1.ff⟩
        exact (ro.mono s1.ff).set (r.mono s1.ff) j
      · cases e2
    · rename_i kvs es
      obtain ⟨q, e1, e2⟩ := Option.bind_eq_some_iff.mp e
      split at e2
      · rename_i hc
        cases e2
        simp only [Bool.and_eq_true, decide_eq_true_eq] at hc
        obtain ⟨ks, hks⟩ := Option.isSome_iff_exists.mp hc.1
        obtain ⟨a, ea, nf, o, ho, ro⟩ := st.sl i _ es
        cases o <;> first | exact ro.elim | skip
        rename_i es'
        refine ⟨_, ea, ρ, _, e1, B, F, st, fun y H1 F1 s1 ry => .inr ?_⟩
        obtain ⟨b, rfl, hb⟩ := ry.key s1.fh hks
        have ha1 := s1.hh _ _ ho
        have ro1 : RepT X.K F1 kvs es' := RepT.mono s1.ff ro
        refine ⟨a, _, rfl, .t ha1 hb (by rw [← ro1.length]; exact hc.2), k σ _ F1 ((st.step s1).write es ea ?_) s1.ff⟩
        exact repT_put hks (r.mono s1.ff) ro1
      · cases e2
    · cases e
end
end Pi

/-! Pi 11: if, loops, changes in place, rows of stores. -/
namespace Pi
open PySem PySem.Spec PyProof.Rows L2
section
variable {X : Cx} {e a b c : Expr} {ρ : En} {p q r : PV} {pos : Pos} {st : Stmt} {sts : List Stmt} {f g : Cst}

/-! ### if -/
def cIfS (t : Ct) (f g : Cst) : Cst := fun ρ => (t ρ).bind fun b => if b then f ρ else g ρ
theorem S_if {t : Ct} {sa sb : List Stmt} (hc : ∀ ρ b, t ρ = some b → PT X c (tTs X.K ρ b)) (ha : PSs X sa (uS X.K f)) (hb : PSs X sb (uS X.K g)) : PS X (.If c sa sb pos) (uS X.K (cIfS t f g)) :=
  (ps_if (mkT hc) ha hb).mono fun D σ H ⟨B, F, ρ, ρ', fl, s, e, k⟩ => by
    obtain ⟨b, e1, e2⟩ := Option.bind_eq_some_iff.mp e
    refine ⟨ρ, b, e1, B, F, s, fun H1 F1 s1 => ?_⟩
    cases b with
    | true =>
      rw [if_pos rfl] at e2 ⊢
      exact ⟨B, F1, ρ, ρ', fl, s.step s1, e2, k⟩
    | false =>
      rw [if_neg Bool.false_ne_true] at e2 ⊢
      exact ⟨B, F1, ρ, ρ', fl, s.step s1, e2, k⟩

/-! ### while -/
def cWhile (t : Ct) (f : Cst) : Nat → Cst
  | 0, _ => none
  | n + 1, ρ => (t ρ).bind fun b => if b then (f ρ).bind fun r => (match r.2 with
      | .nx => cWhile t f n r.1
      | .ct => cWhile t f n r.1
      | .bk => some (r.1, .nx)
      | .rt p => some (r.1, .rt p)) else some (ρ, .nx)
theorem S_while {n : Nat} {t : Ct} {body : List Stmt} (hx : X.xe = fun _ _ => False) (hc : ∀ ρ b, t ρ = some b → PT X c (tTs X.K ρ b)) (hb : PSs X body (uS X.K f)) : PS X (.While c body [] pos) (uS X.K (cWhile t f n)) :=
  (ps_while (by rw [hx]; exact PassesOwn.never) (mkT hc) hb).mono fun D σ H ⟨B, F, ρ, ρ', fl, s, e, k⟩ => by
    refine ⟨fun m σ H => ∃ F ρ, StR X.K B ρ σ H F ∧ cWhile t f m ρ = some (ρ', fl), ⟨n, F, ρ, s, e⟩, ?_⟩
    rintro m σ1 H1 ⟨F1, ρ1, s1, e1⟩
    cases m with
    | zero => cases e1
    | succ m =>
      obtain ⟨b, e2, e3⟩ := Option.bind_eq_some_iff.mp e1
      refine ⟨ρ1, b, e2, B, F1, s1, fun H2 F2 s2 => ?_⟩
      cases b with
      | false =>
        dsimp only
        rw [if_neg Bool.false_ne_true] at e3 ⊢
        cases e3
        exact k _ _ _ (s1.step s2)
      | true =>
        dsimp only
        rw [if_pos rfl] at e3 ⊢
        obtain ⟨⟨ρ2, f2⟩, e4, e5⟩ := Option.bind_eq_some_iff.mp e3
        refine ⟨fun σ' H' => ∃ F ρ, StR X.K B ρ σ' H' F ∧ cWhile t f m ρ = some (ρ', fl), fun σ' H' h => ⟨m, Nat.lt_succ_self m, h⟩, B, F2, ρ1, ρ2, f2, s1.step s2, e4, ?_⟩
        cases f2 with
        | nx => exact fun σ' H' F' s' => ⟨F', ρ2, s', e5⟩
        | ct => exact fun σ' H' F' s' => ⟨F', ρ2, s', e5⟩
        | bk => cases e5; exact k
        | rt p => cases e5; exact k

/-! ### for -/
def cFor (g : Tg) (f : Cst) : List PV → Cst
  | [], ρ => some (ρ, .nx)
  | p :: l, ρ => (g p ρ).bind fun ρ1 => (f ρ1).bind fun r => match r.2 with
    | .nx => cFor g f l r.1
    | .ct => cFor g f l r.1
    | .bk => some (r.1, .nx)
    | .rt p => some (r.1, .rt p)
def cForS (it : Ci) (g : Tg) (f : Cst) : Cst := fun ρ => (it ρ).bind fun items => cFor g f items ρ
/-- what is frozen by now counts as frozen at the entry -/
theorem StR.rebase {K : PySem.W.Frag} {B : Bs} {ρ : En} {σ : L2.St} {H F : Hp} (s : StR K B ρ σ H F) : StR K ⟨B.H, F⟩ ρ σ H F := ⟨s.len, s.fh, s.hb, Same.refl F, fun a o e => .inl e, s.sl, s.ob, s.dj⟩
theorem StR.unbase {K : PySem.W.Frag} {B : Bs} {F0 : Hp} {ρ : En} {σ : L2.St} {H F : Hp} (hf : Same B.F F0) (hn : ∀ a o, F0 a = some o → B.F a = some o ∨ B.H a = none) (s : StR K ⟨B.H, F0⟩ ρ σ H F) : StR K B ρ σ H F :=
  ⟨s.len, s.fh, s.hb, hf.trans s.fb, fun a o e => (s.fn a o e).elim (hn a o) .inr, s.sl, s.ob, s.dj⟩
theorem Fin.rebase {K : PySem.W.Frag} {B : Bs} {D : Ends} {F0 : Hp} {ρ' : En} {fl : Fl} (hf : Same B.F F0) (hn : ∀ a o, F0 a = some o → B.F a = some o ∨ B.H a = none) (k : Fin K B D ρ' fl) : Fin K ⟨B.H, F0⟩ D ρ' fl := by
  cases fl with
  | nx => exact fun σ' H' F' s => k σ' H' F' (s.unbase hf hn)
  | bk => exact fun σ' H' F' s => k σ' H' F' (s.unbase hf hn)
  | ct => exact fun σ' H' F' s => k σ' H' F' (s.unbase hf hn)
  | rt p => exact fun v H' F' s r => k v H' F' ⟨s.hh, hf.trans s.ff, s.fh, fun a o e => (s.nw a o e).elim (hn a o) .inr⟩ r
theorem S_for {tg iter : Expr} {it : Ci} {g : Tg} {gv : List Nat} {body : List Stmt} (hx : X.xe = fun _ _ => False) (hc : X.calm = true) (hi : ∀ ρ items, it ρ = some items → PI X tg iter (tIt X.K ρ items)) (hg : PG X tg (uG X.K g gv)) (hb : PSs X body (uS X.K f)) (ns : noSet iter = true) :
    PS X (.For tg iter body [] pos) (uS X.K (cForS it g f)) :=
  ⟨fun pins s0 σ0 H0 D I ⟨B, F, ρ, ρ', fl, s, e, k⟩ => by
    obtain ⟨items, e1, e2⟩ := Option.bind_eq_some_iff.mp e
    refine (ps_for (by rw [hx]; exact PassesOwn.never) hc (hi ρ items e1) hg hb (folded_of ns _)).run pins s0 σ0 H0 D I ⟨B, F, s, fun J H1 F1 s1 o => ?_⟩
    have sa := s.step s1
    have hn := sa.fn
    have hf := sa.fb
    have k1 : Fin X.K ⟨B.H, F1⟩ D ρ' fl := k.rebase hf hn
    refine ⟨fun i m σ H => m = items.length - i ∧ i ≤ items.length ∧ ∃ F ρ, StR X.K ⟨B.H, F1⟩ ρ σ H F ∧ cFor g f (items.drop i) ρ = some (ρ', fl), ⟨items.length, by simp, Nat.zero_le _, F1, ρ, sa.rebase, by rw [List.drop_zero]; exact e2⟩, ?_⟩
    rintro i m σ H ⟨rfl, hil, Fc, ρc, sc, ec⟩
    have f1 : Same F1 Fc := sc.fb
    by_cases hlt : i < items.length
    · refine .inr ⟨o.go i H Fc (f1.trans sc.fh) f1 sc.fh hlt, fun σ' H' => ∃ F ρ, StR X.K ⟨B.H, F1⟩ ρ σ' H' F ∧ cFor g f (items.drop (i + 1)) ρ = some (ρ', fl), fun σ' H' h => ⟨items.length - (i + 1), by omega, rfl, hlt, h⟩, fun x H' y => ?_⟩
      obtain ⟨p, F', ep, sp, rp⟩ := o.yld i H Fc x H' (f1.trans sc.fh) f1 sc.fh hlt y
      have ed : items.drop i = p :: items.drop (i + 1) := by
        rw [List.drop_eq_getElem_cons hlt]
        rw [List.getElem?_eq_getElem hlt] at ep
        cases ep
        rfl
      rw [ed] at ec
      obtain ⟨ρ1, e3, ec⟩ := Option.bind_eq_some_iff.mp ec
      obtain ⟨⟨ρ2, f2⟩, e4, e5⟩ := Option.bind_eq_some_iff.mp ec
      refine ⟨⟨B.H, F1⟩, F', ρc, p, ρ1, sc.step sp, rp, e3, fun σ2 st2 _ => ⟨⟨B.H, F1⟩, F', ρ1, ρ2, f2, st2, e4, ?_⟩⟩
      cases f2 with
      | nx => exact fun σ' H' F' s' => ⟨F', ρ2, s', e5⟩
      | ct => exact fun σ' H' F' s' => ⟨F', ρ2, s', e5⟩
      | bk => cases e5; exact k1
      | rt p => cases e5; exact k1
    · have el : i = items.length := by omega
      subst el
      rw [List.drop_length] at ec
      cases ec
      exact .inl ⟨o.stop _ H Fc (f1.trans sc.fh) f1 sc.fh (Nat.le_refl _), k1 _ _ _ sc⟩⟩

/-! ### x op= e -/
def iopV : Operator → PV → PV → Option PV
  | .Add, .int i, .int j => some (.int (i + j))
  | .Add, .str x, .str y => if seqOk (x.length + y.length) then some (.str (x ++ y)) else none
  | .Sub, .int i, .int j => some (.int (i - j))
  | .Mult, .int i, .int j => if mulOk i j then some (.int (i * j)) else none
  | .FloorDiv, .int i, .int j => if decide (0 < j) && decide (j.natAbs < 1073741824) then some (.int (i.fdiv j)) else none
  | _, _, _ => none
theorem ok_iop (op : Operator) : OpR X (inplaceOp op) (pR2v X.K (iopV op)) := by
  intro pins s σ H x y v u Q I rx ry h
  obtain ⟨p, q, F, r, sf, hp, hq, e, k⟩ := h
  have ki : ∀ i, r = .int i → Q (.int i) H := fun i e => k _ _ _ (.refl sf) (e ▸ .int i)
  unfold iopV at e
  split at e
  · cases e; cases hp.int; cases hq.int
    exact iop_add pins s σ H _ _ v u Q I rx ry ⟨_, _, rfl, rfl, ki _ rfl⟩
  · split at e
    · rename_i c
      cases e; cases hp.str; cases hq.str
      exact iop_add_str pins s σ H _ _ v u Q I rx ry ⟨_, _, rfl, rfl, of_decide_eq_true c, k _ _ _ (.refl sf) (.str _)⟩
    · cases e
  · cases e; cases hp.int; cases hq.int
    exact iop_sub pins s σ H _ _ v u Q I rx ry ⟨_, _, rfl, rfl, ki _ rfl⟩
  · split at e
    · rename_i c
      cases e; cases hp.int; cases hq.int
      refine iop_mul pins s σ H _ _ v u Q I rx ry ⟨_, _, rfl, rfl, ?_, ki _ rfl⟩
      simp only [mulOk, Bool.or_eq_true, decide_eq_true_eq] at c
      rcases c with c | c
      · exact .inl ⟨by omega, by omega⟩
      · exact .inr ⟨by omega, by omega⟩
    · cases e
  · split at e
    · rename_i i j c
      cases e; cases hp.int; cases hq.int
      simp only [Bool.and_eq_true, decide_eq_true_eq] at c
      refine iop_fdiv pins s σ H _ _ v u Q I rx ry ⟨_, _, rfl, rfl, ⟨c.1, by omega⟩, ?_⟩
      rw [Int.fdiv_eq_ediv_of_nonneg _ (by omega)] at ki
      exact ki _ rfl
    · cases e
  · cases e
def cAug (i : Nat) (op : Operator) (f : Cl) : Cst := fun ρ => match ρ[i]? with
  | some (.val p) => (f ρ).bind fun q => (iopV op p q).map fun r => (ρ.set i (.val r), .nx)
  | _ => none
theorem S_aug {i : Nat} {x : Str} {op : Operator} {f : Cl} {pos' : Pos} (hN : X.N.Nodup) (hi : X.N[i]? = some x) (hx : L2.Loc X.env.scope x) (hf : X.fn x = true ∨ X.env.scope.names.lookup x = some .local) (he : ∀ ρ p, f ρ = some p → PE X e (tBw X.K ρ p)) :
    PS X (.AugAssign (.Name x pos') op e pos) (uS X.K (cAug i op f)) :=
  (ps_aug hN hi hx (mkB he) (ok_iop op) hf).mono fun D σ H ⟨B, F, ρ, ρ', fl, s, e, k⟩ => by
    unfold cAug at e
    split at e
    · rename_i p es
      obtain ⟨q, e1, e2⟩ := Option.bind_eq_some_iff.mp e
      obtain ⟨r, e3, e4⟩ := Option.map_eq_some_iff.mp e2
      cases e4
      obtain ⟨v, ev, rv⟩ := s.sl i _ es
      exact ⟨v, ev, ρ, q, e1, B, F, s, fun y H1 F1 s1 ry => ⟨p, q, F1, r, s1.fh, .inl (rv.mono s1.ff), ry, e3, fun z H2 F2 s2 rz => k _ H2 F2 (((s.step s1).step s2).setVal rz)⟩⟩
    · cases e

/-! ### x.append(e), x.extend(e) -/
def cAppend (i : Nat) (f : Cl) : Cst := fun ρ => match ρ[i]? with
  | some (.own (.lst l)) => (f ρ).bind fun p => if l.length < sizeLine then some (ρ.set i (.own (.lst (l ++ [p]))), .nx) else none
  | _ => none
def cExtend (i : Nat) (f : Cl) : Cst := fun ρ => match ρ[i]? with
  | some (.own (.lst l)) => (f ρ).bind fun p => match p with
    | .lst m => if l.length + m.length ≤ sizeLine then some (ρ.set i (.own (.lst (l ++ m))), .nx) else none
    | _ => none
  | _ => none
theorem few_one (ns : notStar e = true) (env : PySem.Env) (cpos : Pos) : ((backTo cpos (starEach [e] env)).all (fun x => !x.1) && (backToKw cpos (keywordEach [] env)).all (fun x => x.1.isSome) && decide ([e].length + ([] : List Keyword).length + (if ([] : List Keyword).isEmpty then 0 else 1) < 30)) = true := by
  rw [star_cons ns]
  rfl
theorem pe_append {i : Nat} {x : Str} {p0 apos cpos : Pos} {f : Cl} (ho : PE X (.Name x p0) (tVar i)) (ns : notStar e = true) (hline : (apos.endLine == cpos.line) = true) (he : ∀ ρ p, f ρ = some p → PE X e (tE X.K ρ p)) :
    PE X (.Call (.Attribute (.Name x p0) "append" apos) [e] [] cpos) (tBM X.K "list" rAppend (tVar i) (tCons (uE X.K f) tNil)) :=
  pe_bm PySem.F.plainAttrs_list PySem.F.slot_list_append PySem.F.type_list_append mt_append ho (pa_cons (mkE he) pa_nil (star_cons ns _)) rfl (few_one ns _ _) hline (star_cons ns _) rfl
theorem pe_extend {i : Nat} {x : Str} {p0 apos cpos : Pos} {f : Cl} (ho : PE X (.Name x p0) (tVar i)) (ns : notStar e = true) (hline : (apos.endLine == cpos.line) = true) (he : ∀ ρ p, f ρ = some p → PE X e (tBw X.K ρ p)) :
    PE X (.Call (.Attribute (.Name x p0) "extend" apos) [e] [] cpos) (tBM X.K "list" rExtend (tVar i) (tCons (uB X.K f) tNil)) :=
  pe_bm PySem.F.plainAttrs_list PySem.F.slot_list_extend PySem.F.type_list_extend mt_extend ho (pa_cons (mkB he) pa_nil (star_cons ns _)) rfl (few_one ns _ _) hline (star_cons ns _) rfl
theorem S_append {i : Nat} {x : Str} {p0 apos cpos : Pos} {f : Cl} (ho : PE X (.Name x p0) (tVar i)) (ns : notStar e = true) (hline : (apos.endLine == cpos.line) = true) (he : ∀ ρ p, f ρ = some p → PE X e (tE X.K ρ p)) :
    PS X (.Expr (.Call (.Attribute (.Name x p0) "append" apos) [e] [] cpos) pos) (uS X.K (cAppend i f)) :=
  (ps_expr (pe_append ho ns hline he) rfl).mono fun D σ H ⟨B, F, ρ, ρ', fl, s, e, k⟩ => by
    unfold cAppend at e
    split at e
    · rename_i l es
      obtain ⟨p, e1, e2⟩ := Option.bind_eq_some_iff.mp e
      split at e2
      · rename_i hz
        cases e2
        obtain ⟨a, ea, nf, o, ho, ro⟩ := s.sl i _ es
        cases o <;> first | exact ro.elim | skip
        rename_i xs
        refine ⟨_, ea, .inl ⟨rfl, _, .of ho⟩, ρ, p, e1, B, F, s, fun y H1 F1 s1 ry => ?_⟩
        refine ⟨a, xs, y, rfl, rfl, s1.hh _ _ ho, by rw [← Reps.length ro]; exact hz, k _ _ F1 ((s.step s1).write es ea ?_)⟩
        exact (ro.mono s1.ff).append (.one ry)
      · cases e2
    · cases e
theorem S_extend {i : Nat} {x : Str} {p0 apos cpos : Pos} {f : Cl} (ho : PE X (.Name x p0) (tVar i)) (ns : notStar e = true) (hline : (apos.endLine == cpos.line) = true) (he : ∀ ρ p, f ρ = some p → PE X e (tBw X.K ρ p)) :
    PS X (.Expr (.Call (.Attribute (.Name x p0) "extend" apos) [e] [] cpos) pos) (uS X.K (cExtend i f)) :=
  (ps_expr (pe_extend ho ns hline he) rfl).mono fun D σ H ⟨B, F, ρ, ρ', fl, s, e, k⟩ => by
    unfold cExtend at e
    split at e
    · rename_i l es
      obtain ⟨p, e1, e2⟩ := Option.bind_eq_some_iff.mp e
      split at e2
      · split at e2
        · rename_i m hz
          cases e2
          obtain ⟨a, ea, nf, o, ho, ro⟩ := s.sl i _ es
          cases o <;> first | exact ro.elim | skip
          rename_i xs
          refine ⟨_, ea, .inl ⟨rfl, _, .of ho⟩, ρ, _, e1, B, F, s, fun y H1 F1 s1 ry => ?_⟩
          obtain ⟨b, ys, rfl, hb, rb⟩ := ry.lst s1.fh
          refine ⟨a, b, xs, ys, rfl, rfl, s1.hh _ _ ho, hb, by rw [← Reps.length ro, ← rb.length]; exact hz, k _ _ F1 ((s.step s1).write es ea ?_)⟩
          exact (ro.mono s1.ff).append rb
        · cases e2
      · cases e2
    · cases e

/-! ### x[i] op= e -/
def cAugS (i : Nat) (ix : Cl) (op : Operator) (f : Cl) : Cst := fun ρ => match ρ[i]? with
  | some (.own (.lst l)) => (ix ρ).bind fun q => match q with
    | .int k => if 0 ≤ k then (l[k.toNat]?).bind fun p => (f ρ).bind fun q => (iopV op p q).map fun r => (ρ.set i (.own (.lst (l.set k.toNat r))), .nx) else none
    | _ => none
  | _ => none
theorem S_augS {i : Nat} {ix f : Cl} {op : Operator} {o ie : Expr} {tpos : Pos} (ho : PE X o (tVar i)) (hi : ∀ ρ p, ix ρ = some p → PE X ie (tBw X.K ρ p)) (he : ∀ ρ p, f ρ = some p → PE X e (tBw X.K ρ p))
    (ha : ∀ ov iv new, augStore ie ov iv new = (do holding [new, ov, iv] (setItem ov iv new); release [new, ov, iv] []; pure .next)) : PS X (.AugAssign (.Subscript o ie tpos) op e pos) (uS X.K (cAugS i ix op f)) :=
  (ps_augS ho (mkB hi) get_listN (mkB he) (ok_iop op) set_list ha).mono fun D σ H ⟨B, F, ρ, ρ', fl, s, e, k⟩ => by
    unfold cAugS at e
    split at e
    · rename_i l es
      obtain ⟨q, e1, e⟩ := Option.bind_eq_some_iff.mp e
      split at e
      · rename_i kk
        split at e
        · rename_i h0
          obtain ⟨p, hp, e⟩ := Option.bind_eq_some_iff.mp e
          obtain ⟨q2, e2, e⟩ := Option.bind_eq_some_iff.mp e
          obtain ⟨r, e3, e⟩ := Option.map_eq_some_iff.mp e
          cases e
          obtain ⟨a, ea, nf, o, ho, ro⟩ := s.sl i _ es
          cases o <;> first | exact ro.elim | skip
          rename_i xs
          refine ⟨_, ea, ρ, _, e1, B, F, s, fun y H1 F1 s1 ry => ?_⟩
          cases ry.int
          have ha1 := s1.hh _ _ ho
          have ro1 : Reps X.K F1 l xs := Reps.mono s1.ff ro
          obtain ⟨z, hz, rz⟩ := ro1.get hp
          refine ⟨a, xs, kk, z, rfl, rfl, ha1, h0, hz, ρ, q2, e2, B, F1, s.step s1, fun y2 H2 F2 s2 ry2 => ⟨p, q2, F2, r, s2.fh, .inl (rz.mono s2.ff), ry2, e3, fun v H3 F3 s3 rv => ?_⟩⟩
          have ha3 := s3.hh _ _ (s2.hh _ _ ha1)
          have hlt := (List.getElem?_eq_some_iff.mp hz).1
          refine ⟨a, xs, kk, kk.toNat, rfl, rfl, ha3, ?_, k _ _ F3 ((((s.step s1).step s2).step s3).write es ea ?_)⟩
          · unfold ixN
            rw [if_pos h0, if_pos (by omega)]
          · exact (ro1.mono (s2.ff.trans s3.ff)).set rv kk.toNat
        · cases e
      · cases e
    · cases e
end
end Pi

/-! Pi 12: several stores at once; the compilation of statements. -/
namespace Pi
open PySem PySem.Spec PyProof.Rows L2
section
variable {X : Cx} {e a b c : Expr} {ρ : En} {p q r : PV} {pos : Pos} {st : Stmt} {sts : List Stmt} {f g : Cst}

/-! ### a, b = e1, e2: names alone; new containers stay one's own -/
def relR (K : PySem.W.Frag) (fr : Bool) (H F' H' : Hp) (p : PV) (v : V) : Prop := if fr then RelFr K H F' H' p v else Rep K F' p v
inductive RowR (K : PySem.W.Frag) (F' H' : Hp) : Hp → List Bool → List PV → List V → Prop
  | nil {H : Hp} : RowR K F' H' H [] [] []
  | cons {H H1 : Hp} {b : Bool} {p : PV} {v : V} {bs : List Bool} {ps : List PV} {vs : List V} : Same H H1 → relR K b H F' H' p v → (b = true → p.isCont = true → ∀ a, v = .ref a → ∃ o, H1 a = some o) → RowR K F' H' H1 bs ps vs → RowR K F' H' H (b :: bs) (p :: ps) (v :: vs)
theorem relR_step {K : PySem.W.Frag} {fr : Bool} {H0 F H F' H' : Hp} (s : Stp F H F' H') {p : PV} {v : V} (h : relR K fr H0 F H p v) : relR K fr H0 F' H' p v := by
  unfold relR at h ⊢
  split
  · rename_i c
    rw [if_pos c] at h
    unfold RelFr at h ⊢
    split
    · rename_i c2
      rw [if_pos c2] at h
      obtain ⟨a, e, n, o⟩ := h
      exact ⟨a, e, n, o.step s⟩
    · rename_i c2
      rw [if_neg c2] at h
      exact h.mono s.ff
  · rename_i c
    rw [if_neg c] at h
    exact h.mono s.ff
theorem RowR.step {K : PySem.W.Frag} {F H F' H' : Hp} (s : Stp F H F' H') : ∀ {H0 : Hp} {bs : List Bool} {ps : List PV} {vs : List V}, RowR K F H H0 bs ps vs → RowR K F' H' H0 bs ps vs
  | _, _, _, _, .nil => .nil
  | _, _, _, _, .cons a b c d => .cons a (relR_step s b) c (RowR.step s d)
theorem RowR.length {K : PySem.W.Frag} {F H : Hp} : ∀ {H0 : Hp} {bs : List Bool} {ps : List PV} {vs : List V}, RowR K F H H0 bs ps vs → ps.length = vs.length
  | _, _, _, _, .nil => rfl
  | _, _, _, _, .cons a b c d => by rw [List.length_cons, List.length_cons, RowR.length d]
def tRow (K : PySem.W.Frag) (ρ : En) (bs : List Bool) (ps : List PV) : TA := fun σ H Q => ∃ B F, StR K B ρ σ H F ∧ ∀ vs H' F', Stp F H F' H' → RowR K F' H' H bs ps vs → Q vs H'
theorem tR_rel {fr : Bool} {σ : L2.St} {H : Hp} {Q : VK} {K : PySem.W.Frag} {B : Bs} {F : Hp} (s : StR K B ρ σ H F) (k : ∀ v H' F', Stp F H F' H' → relR K fr H F' H' p v → Q v H') : tR fr K ρ p σ H Q := by
  unfold tR
  cases fr with
  | true => exact ⟨B, F, s, k⟩
  | false => exact ⟨B, F, s, k⟩
theorem r_nil : PA X [] (tRow X.K ρ [] []) := ⟨fun pos pins s σ H Q I ⟨B, F, st, k⟩ => pa_nil.run pos pins s σ H Q I (k [] H F (.refl st.fh) .nil)⟩
theorem r_cons {es : List Expr} {bs : List Bool} {ps : List PV} {fr : Bool} (ns : notStar e = true) (ha : PE X e (tR fr X.K ρ p)) (hr : PA X es (tRow X.K ρ bs ps)) : PA X (e :: es) (tRow X.K ρ (fr :: bs) (p :: ps)) :=
  ⟨fun pos pins s σ H Q I ⟨B, F, st, k⟩ => (pa_cons ha hr (star_cons ns _)).run pos pins s σ H Q I (tR_rel st fun v H1 F1 s1 r => ⟨B, F1, st.step s1, fun vs H2 F2 s2 rs =>
    k _ _ _ (s1.trans s2) (.cons s1.hh (relR_step s2 r) (fun c1 c2 a ev => by
      unfold relR RelFr at r
      rw [if_pos c1, if_pos c2] at r
      obtain ⟨a', e', n, nf, o', ho', ro⟩ := r
      rw [ev] at e'
      cases e'
      exact ⟨o', ho'⟩) rs)⟩)⟩
def setRow : List Nat → List Bool → List PV → En → En
  | i :: is, b :: bs, p :: ps, ρ => setRow is bs ps (ρ.set i (if b && p.isCont then .own p else .val p))
  | _, _, _, ρ => ρ
def setSl : List Nat → List V → L2.St → L2.St
  | i :: is, v :: vs, σ => setSl is vs (σ.set i (some v))
  | _, _, σ => σ
theorem StR.row {K : PySem.W.Frag} {B : Bs} {F H : Hp} : ∀ {H0 : Hp} {bs : List Bool} {ps : List PV} {vs : List V} {is : List Nat} {ρ : En} {σ : L2.St}, RowR K F H H0 bs ps vs → is.length = ps.length → StR K B ρ σ H F → Same B.H H0 →
    (∀ (j : Nat) q b, ρ[j]? = some (.own q) → σ[j]? = some (some (.ref b)) → ∃ o, H0 b = some o) → StR K B (setRow is bs ps ρ) (setSl is vs σ) H F
  | _, _, _, _, is, ρ, σ, .nil, hl, st, _, _ => by
    cases is with
    | nil => exact st
    | cons _ _ => cases hl
  | H0, _, _, _, is, ρ, σ, .cons (H1 := H1) (b := b) (p := p) (v := v) a r c d, hl, st, hb, ho => by
    cases is with
    | nil => cases hl
    | cons i is =>
      have hl' := Nat.succ.inj hl
      unfold relR at r
      show StR K B (setRow is _ _ (ρ.set i (if b && p.isCont then .own p else .val p))) (setSl is _ (σ.set i (some v))) H F
      by_cases hc : b = true ∧ p.isCont = true
      · unfold RelFr at r
        rw [if_pos hc.1, if_pos hc.2] at r
        obtain ⟨x, rfl, n, o⟩ := r
        rw [if_pos (by rw [hc.1, hc.2]; rfl)]
        have s1 : StR K B (ρ.set i (.own p)) (σ.set i (some (.ref x))) H F := st.setOwn o (hb.free n) fun j q e h => by
          obtain ⟨u, hu⟩ := ho j q x e h
          rw [n] at hu
          cases hu
        refine StR.row d hl' s1 (hb.trans a) fun j q y e h => ?_
        rcases get_set_val e with ⟨ej, _, hlt⟩ | ⟨nj, e⟩
        · rw [ej, List.getElem?_set_self (by rw [← st.len]; exact hlt)] at h
          cases h
          exact c hc.1 hc.2 x rfl
        · rw [List.getElem?_set_ne (Ne.symm nj)] at h
          obtain ⟨u, hu⟩ := ho j q y e h
          exact ⟨u, a _ _ hu⟩
      · have r' : Rep K F p v := by
          split at r
          · unfold RelFr at r
            split at r
            · rename_i h1 h2
              exact absurd ⟨h1, h2⟩ hc
            · exact r
          · exact r
        rw [if_neg (by rw [Bool.and_eq_true]; exact hc)]
        refine StR.row d hl' (st.setVal r') (hb.trans a) fun j q y e h => ?_
        rcases get_set_val e with ⟨_, z, _⟩ | ⟨nj, e⟩
        · cases z
        · rw [List.getElem?_set_ne (Ne.symm nj)] at h
          obtain ⟨u, hu⟩ := ho j q y e h
          exact ⟨u, a _ _ hu⟩
theorem StR.ownSome {K : PySem.W.Frag} {B : Bs} {ρ : En} {σ : L2.St} {H F : Hp} (st : StR K B ρ σ H F) (j : Nat) (q : PV) (b : Addr) (e : ρ[j]? = some (.own q)) (h : σ[j]? = some (some (.ref b))) : ∃ o, H b = some o := by
  obtain ⟨a, ea, _, o, ho, _⟩ := st.sl j _ e
  rw [h] at ea
  cases ea
  exact ⟨o, ho⟩
def cRow (is : List Nat) (bs : List Bool) (fs : List Cl) : Cst := fun ρ => (evs fs ρ).bind fun ps => if seqOk ps.length && decide (is.length = ps.length) then some (setRow is bs ps ρ, .nx) else none
/-- the row's end: the names hold the values -/
theorem row_fin {K : PySem.W.Frag} {B : Bs} {D : Ends} {is : List Nat} {bs : List Bool} {ps : List PV} {σ : L2.St} {H F : Hp} (st : StR K B ρ σ H F) (hl : is.length = ps.length) (k : Fin K B D (setRow is bs ps ρ) .nx) : tRow K ρ bs ps σ H fun vs H1 => D.nx (setSl is vs σ) H1 :=
  ⟨B, F, st, fun vs H1 F1 s1 r => k _ H1 F1 (StR.row r hl (st.step s1) st.hb st.ownSome)⟩
def uRow (K : PySem.W.Frag) (bs : List Bool) (fs : List Cl) : TA := fun σ H Q => ∃ ρ ps, evs fs ρ = some ps ∧ tRow K ρ bs ps σ H Q
theorem uRow_mono {K : PySem.W.Frag} {bs : List Bool} {fs : List Cl} {σ : L2.St} {H : Hp} {Q Q' : List V → Hp → Prop} (h : uRow K bs fs σ H Q) (m : ∀ vs H', Q vs H' → Q' vs H') : uRow K bs fs σ H Q' := by
  obtain ⟨ρ, ps, e, B, F, st, k⟩ := h
  exact ⟨ρ, ps, e, B, F, st, fun vs H' F' s r => m _ _ (k vs H' F' s r)⟩
theorem mkRow {es : List Expr} {bs : List Bool} {fs : List Cl} (h : ∀ ρ ps, evs fs ρ = some ps → PA X es (tRow X.K ρ bs ps)) : PA X es (uRow X.K bs fs) := ⟨fun pos pins s σ H Q I ⟨ρ, ps, e, hw⟩ => (h ρ ps e).run pos pins s σ H Q I hw⟩
theorem S_row {stm : Stmt} {is : List Nat} {bs : List Bool} {fs : List Cl} (h : PS X stm (fun D σ H => uRow X.K bs fs σ H fun vs H1 => vs.length = is.length ∧ vs.length ≤ sizeLine ∧ (∀ z, H1 z = none → D.nx (setSl is vs σ) (upd H1 z (.tup vs))) ∧ D.nx (setSl is vs σ) H1)) : PS X stm (uS X.K (cRow is bs fs)) :=
  h.mono fun D σ H ⟨B, F, ρ, ρ', fl, st, e, k⟩ => by
    obtain ⟨ps, e1, e2⟩ := Option.bind_eq_some_iff.mp e
    split at e2
    · rename_i hc
      cases e2
      simp only [Bool.and_eq_true, decide_eq_true_eq, seqOk] at hc
      refine ⟨ρ, ps, e1, B, F, st, fun vs H1 F1 s1 r => ⟨by rw [← r.length, hc.2], by rw [← r.length]; exact hc.1, fun z n => ?_, k _ H1 F1 (StR.row r hc.2 (st.step s1) st.hb st.ownSome)⟩⟩
      have s2 : Stp F1 H1 F1 (upd H1 z (.tup vs)) := .new' s1.fh n
      exact k _ _ F1 (StR.row (r.step s2) hc.2 ((st.step s1).step s2) st.hb st.ownSome)
    · cases e2
/-- a row of names as targets -/
def gNames : List Nat → TGs
  | [] => gNil
  | i :: is => gCons (gName i) (gNames is)
theorem gNames_of : ∀ {is : List Nat} {vs : List V} {σ : L2.St} {H : Hp} {Q : L2.St → Hp → Prop}, is.length = vs.length → Q (setSl is vs σ) H → gNames is vs σ H Q
  | [], [], _, _, _, _, q => ⟨rfl, q⟩
  | i :: is, v :: vs, σ, H, Q, hl, q => ⟨v, vs, rfl, gNames_of (Nat.succ.inj hl) q⟩
def nameSlots (Γ : Cfg) : List Expr → Option (List Nat)
  | [] => some []
  | .Name x _ :: es => gd (storeOk Γ x) (opt2 List.cons (slotOf Γ.N x) (nameSlots Γ es))
  | _ :: _ => none
theorem nameSlots_ok {Γ : Cfg} (G : Good Γ X) : ∀ {es : List Expr} {is : List Nat}, nameSlots Γ es = some is → PGs X es (gNames is) ∧ es.all notStar = true ∧ es.length = is.length
  | [], _, h => by
    cases h
    exact ⟨pgs_nil, rfl, rfl⟩
  | .Name x px :: es, _, h => by
    obtain ⟨h1, h2⟩ := gd_eq h
    obtain ⟨i, is, h3, h4, rfl⟩ := opt2_eq h2
    obtain ⟨l1, l2⟩ := G.store h1
    obtain ⟨q1, q2, q3⟩ := nameSlots_ok G h4
    exact ⟨pgs_cons (pg_name G.nd (by rw [G.N]; exact slotOf_get h3) l1 l2) q1 (by rw [assign_cons rfl]; rfl), by rw [List.all_cons, q2]; rfl, by rw [List.length_cons, List.length_cons, q3]⟩
  | .BoolOp .. :: _, _, h | .NamedExpr .. :: _, _, h | .BinOp .. :: _, _, h | .UnaryOp .. :: _, _, h | .Lambda .. :: _, _, h | .IfExp .. :: _, _, h | .Dict .. :: _, _, h | .Set .. :: _, _, h | .ListComp .. :: _, _, h | .SetComp .. :: _, _, h
  | .DictComp .. :: _, _, h | .GeneratorExp .. :: _, _, h | .Await .. :: _, _, h | .Yield .. :: _, _, h | .YieldFrom .. :: _, _, h | .Compare .. :: _, _, h | .Call .. :: _, _, h | .FormattedValue .. :: _, _, h | .JoinedStr .. :: _, _, h
  | .Constant .. :: _, _, h | .Attribute .. :: _, _, h | .Subscript .. :: _, _, h | .Starred .. :: _, _, h | .List .. :: _, _, h | .Tuple .. :: _, _, h | .Slice .. :: _, _, h => by cases h
/-- swappedStores, reckoned by the scope -/
def swLine (ts : List Expr) : Nat := (ts.head?.map (·.pos.line)).getD 0
def swName (sc : Scope) (ts : List Expr) : Expr → Option Str
  | .Name id pos => if sc.names.lookup id == some .local && pos.line == swLine ts then some id else none
  | _ => none
def isStar : Expr → Bool
  | .Starred .. => true
  | _ => false
def swapP (sc : Scope) (ts vs : List Expr) : Option (Option (List Str)) :=
  if (!(ts.length == 2 || ts.length == 3) || vs.length != ts.length) = true then some none else
  if vs.any isStar = true then some none else
  if ((ts.filterMap (swName sc ts)).length != ts.length || (ts.filterMap (swName sc ts)).eraseDups.length != (ts.filterMap (swName sc ts)).length) = true then some none else
  if vs.all (foldedForSure 8) = true then some none else
  if vs.all (constantsAlone 8) = true then none else some (some (ts.filterMap (swName sc ts)))
theorem swap_eq {sc : Scope} {ts vs : List Expr} {r : Option (List Str)} {env : PySem.Env} {k1 k2 : Nat} {p1 p2 : Pos} (hk : env.scope.kind = .function) (hs : env.scope = sc) (h : swapP sc ts vs = some r) : swappedStores [.Tuple ts k1 p1] (.Tuple vs k2 p2) env = pure r := by
  have hb : env.blockKind = .function := by
    unfold Env.blockKind
    rw [hk]
    rfl
  subst hs
  have e1 : (!(ts.length == 2 || ts.length == 3) || vs.length != ts.length || ScopeKind.function != ScopeKind.function) = (!(ts.length == 2 || ts.length == 3) || vs.length != ts.length) := by
    rw [show (ScopeKind.function != ScopeKind.function) = false from rfl, Bool.or_false]
  unfold swappedStores
  simp only [hb, e1]
  unfold swapP at h
  split at h
  · rename_i c1
    cases h
    rw [if_pos c1]
  · rename_i c1
    rw [if_neg c1]
    split at h
    · rename_i c2
      cases h
      exact if_pos (show (vs.any isStar) = true from c2)
    · rename_i c2
      refine Eq.trans (if_neg (show ¬ (vs.any isStar) = true from c2)) ?_
      split at h
      · rename_i c3
        cases h
        exact if_pos (show ((ts.filterMap (swName env.scope ts)).length != ts.length || (ts.filterMap (swName env.scope ts)).eraseDups.length != (ts.filterMap (swName env.scope ts)).length) = true from c3)
      · rename_i c3
        refine Eq.trans (if_neg (show ¬ ((ts.filterMap (swName env.scope ts)).length != ts.length || (ts.filterMap (swName env.scope ts)).eraseDups.length != (ts.filterMap (swName env.scope ts)).length) = true from c3)) ?_
        split at h
        · rename_i c4
          cases h
          exact if_pos c4
        · rename_i c4
          refine Eq.trans (if_neg c4) ?_
          split at h
          · cases h
          · rename_i c5
            cases h
            exact if_neg c5
end
end Pi

/-! Pi 13: the compilation of statements, defs, the law's end. -/
namespace Pi
open PySem PySem.Spec PyProof.Rows L2

def notComp : Expr → Bool
  | .ListComp .. => false
  | .SetComp .. => false
  | .DictComp .. => false
  | _ => true
theorem swaps_no {e : Expr} (h : notComp e = true) (o : Option Expr) (l : Nat) (env : PySem.Env) : swapsWith e o l env = pure false := by
  cases e <;> first | rfl | (cases h)
/-- whether a comprehension's value goes to the name at once -/
def swB (sc : Scope) (x : Str) (px : Pos) (scope : Scope) (vpos : Pos) : Bool := sc.names.lookup x == some .local && px.line == vpos.line && !(scope.names.any fun (n, k) => n == x && (k == .local || k == .cell))
theorem swB_eq {sc : Scope} {x : Str} {px pos : Pos} {scope : Scope} {elt : Expr} {gs : List Comprehension} {l : Nat} {env : PySem.Env} (hk : env.scope.kind = .function) (hs : env.scope = sc) :
    swapsWith (.ListComp elt gs scope pos) (some (.Name x px)) l env = pure (swB sc x px scope pos) := by
  subst hs
  have hb : env.blockKind = .function := by unfold Env.blockKind; rw [hk]; rfl
  unfold swapsWith
  simp only [hb, Expr.pos]
  rfl

/-! ### what is handed on and so frozen -/
def esc (Γ : Cfg) (ow : List Nat) : Nat → Bool → Expr → List Nat
  | 0, _, _ => []
  | n + 1, vm, e => match e with
    | .Name x _ => if vm then (match slotOf Γ.N x with
      | some i => if i ∈ ow then [i] else []
      | none => []) else []
    | .Tuple es _ _ => es.flatMap (esc Γ ow n true)
    | .List es _ => es.flatMap (esc Γ ow n true)
    | .Dict ks vs _ => ks.flatMap (fun k => match k with
      | some k => esc Γ ow n true k
      | none => []) ++ vs.flatMap (esc Γ ow n true)
    | .Call (.Name x _) as _ _ => as.flatMap (esc Γ ow n ((Γ.fns.lookup x).isSome || (vm && (decide (x = "enumerate") || decide (x = "zip") || decide (x = "reversed")))))
    | .Call (.Attribute o _ _) as _ _ => esc Γ ow n false o ++ as.flatMap (esc Γ ow n true)
    | .IfExp t a b _ => esc Γ ow n false t ++ esc Γ ow n true a ++ esc Γ ow n true b
    | .BoolOp _ vs _ => vs.flatMap (esc Γ ow n vm)
    | .BinOp a _ b _ => esc Γ ow n false a ++ esc Γ ow n false b
    | .Compare a _ bs _ => esc Γ ow n false a ++ bs.flatMap (esc Γ ow n false)
    | .Subscript a b _ => esc Γ ow n false a ++ esc Γ ow n false b
    | .UnaryOp _ a _ => esc Γ ow n vm a
    | .ListComp elt gs _ _ => gs.flatMap (fun g => esc Γ ow n false g.iter ++ g.ifs.flatMap (esc Γ ow n false)) ++ esc Γ ow n true elt
    | _ => []
/-- the names that ever get a new container -/
def ownables (Γ : Cfg) : Nat → List Stmt → List Nat
  | 0, _ => []
  | n + 1, sts => sts.flatMap fun st => match st with
    | .Assign [.Name x _] e _ => if isFr Γ e then (slotOf Γ.N x).toList else []
    | .Assign [.Tuple ts _ _] (.Tuple vs _ _) _ => (ts.zip vs).flatMap fun p => match p.1 with
      | .Name x _ => if isFr Γ p.2 then (slotOf Γ.N x).toList else []
      | _ => []
    | .If _ a b _ => ownables Γ n a ++ ownables Γ n b
    | .For _ _ b _ _ => ownables Γ n b
    | .While _ b _ _ => ownables Γ n b
    | _ => []
def fz (is : List Nat) (f : Cst) : Cst := match is with
  | [] => f
  | is => cFz is f
def WF : Nat := 1000000
/-- subscript targets, rows of targets -/
def tgS (c : Cs) (Γ : Cfg) : Nat → Expr → Option Tg
  | _, .Name x _ => gd (storeOk Γ x) ((slotOf Γ.N x).map gN)
  | _, .Subscript (.Name x _) e _ => gd (visOk Γ x && noSlice e) (opt2 cSubL (slotOf Γ.N x) (bw c Γ e))
  | n + 1, .Tuple es _ _ => gd (es.all notStar) ((es.foldr (fun e (o : Option (List PV → En → Option En)) => opt2 gsC (tgS c Γ n e) o) (some gsN)).map gT)
  | _, _ => none
def storeName (Γ : Cfg) (x : Str) (f : Nat → Option Cst) : Option Cst := gd (storeOk Γ x) ((slotOf Γ.N x).bind f)
def rowM (c : Cs) (Γ : Cfg) : List Expr → Option (List Cl)
  | [] => some []
  | e :: es => gd (notStar e) (opt2 List.cons (c.v Γ e) (rowM c Γ es))
/-- a, b = e1, e2 -/
def tupC (c : Cs) (Γ : Cfg) (ts vs : List Expr) : Option Cst :=
  match swapP Γ.sc ts vs with
  | none => none
  | some none => match nameSlots Γ ts with
    | some is => gd (decide (is.length = vs.length)) ((rowV c Γ vs).map fun fs => cRow is (vs.map (isFr Γ)) fs)
    | none => opt2 (fun g f => cTgA g f) (tgS c Γ 4 (.Tuple ts 0 ⟨0, 0, 0, 0⟩)) (((rowV c Γ vs).map cTup))
  | some (some xs) => match ts, vs with
    | [.Name x _, .Name y _], [a, b] => gd (decide (xs = [x, y]) && decide (Γ.sc.names.lookup x = some .local) && decide (Γ.sc.names.lookup y = some .local))
        ((slotOf Γ.N x).bind fun i => (slotOf Γ.N y).bind fun j => gd (decide (i ≠ j)) ((rowV c Γ [a, b]).map fun fs => cRow [i, j] [isFr Γ a, isFr Γ b] fs))
    | [.Name x _, .Name y _, .Name z _], [a, b, d] => gd (decide (xs = [x, y, z]) && decide (Γ.sc.names.lookup x = some .local) && decide (Γ.sc.names.lookup y = some .local) && decide (Γ.sc.names.lookup z = some .local))
        ((slotOf Γ.N x).bind fun i => (slotOf Γ.N y).bind fun j => (slotOf Γ.N z).bind fun l => gd (decide (i ≠ j) && decide (i ≠ l) && decide (j ≠ l)) ((rowV c Γ [a, b, d]).map fun fs => cRow [i, j, l] [isFr Γ a, isFr Γ b, isFr Γ d] fs))
    | _, _ => none
def ssOf (f : Stmt → Option Cst) : List Stmt → Option Cst
  | [] => some cSkip
  | [st] => f st
  | st :: st' :: sts => opt2 cSeq (f st) (ssOf f (st' :: sts))
def asgC (c : Cs) (Γ : Cfg) (x : Str) (e : Expr) : Option Cst := storeName Γ x fun i => (c.v Γ e).map fun f => if isFr Γ e then cAsgF i f else cAsgV i f
def stC (c : Cs) (Γ : Cfg) (ow : List Nat) : Nat → Stmt → Option Cst
  | 0, _ => none
  | n + 1, st => match st with
    | .Pass _ => some cSkip
    | .Break _ => some cBrk
    | .Continue _ => some cCnt
    | .Return none _ => some cRetN
    | .Return (some (.Name x _)) _ => gd (visOk Γ x) ((slotOf Γ.N x).map fun i => cRet (cVarB i))
    | .Return (some e) _ => (c.v Γ e).map fun f => fz (esc Γ ow 30 true e) (cRet f)
    | .Assign [.Name x px] (.ListComp elt [⟨tg, iter, ifs, 0⟩] scope vpos) _ => (asgC c Γ x (.ListComp elt [⟨tg, iter, ifs, 0⟩] scope vpos)).map (fz (esc Γ ow 30 true (.ListComp elt [⟨tg, iter, ifs, 0⟩] scope vpos)))
    | .Assign [.Name x px] (.ListComp elt [⟨tg, iter, ifs, 0⟩, ⟨tg1, iter1, ifs1, 0⟩] scope vpos) _ => (asgC c Γ x (.ListComp elt [⟨tg, iter, ifs, 0⟩, ⟨tg1, iter1, ifs1, 0⟩] scope vpos)).map (fz (esc Γ ow 30 true (.ListComp elt [⟨tg, iter, ifs, 0⟩, ⟨tg1, iter1, ifs1, 0⟩] scope vpos)))
    | .Assign [.Name x _] e _ => gd (notComp e) ((asgC c Γ x e).map (fz (esc Γ ow 30 true e)))
    | .Assign [.Tuple ts _ _] (.Tuple vs _ _) _ => (tupC c Γ ts vs).map (fz (vs.flatMap (esc Γ ow 30 true)))
    | .Assign [.Tuple ts k tp] e _ => gd (notComp e && noTuple e) ((opt2 (fun g f => cTgA g f) (tgS c Γ 4 (.Tuple ts k tp)) (c.v Γ e)).map (fz (esc Γ ow 30 true e)))
    | .Assign [.Subscript a i tp] e _ => gd (notComp e) ((opt2 (fun g f => cTgA g f) (tgS c Γ 4 (.Subscript a i tp)) (c.v Γ e)).map (fz (esc Γ ow 30 true e)))
    | .AugAssign (.Name x _) op e _ => storeName Γ x fun i => (bw c Γ e).map (cAug i op)
    | .AugAssign (.Subscript (.Name x _) ie _) op e _ => gd (visOk Γ x && noSlice ie) ((slotOf Γ.N x).bind fun i => opt2 (fun ix f => cAugS i ix op f) (bw c Γ ie) (bw c Γ e))
    | .If t a b _ => (opt3 cIfS (c.t Γ t) (ssOf (stC c Γ ow n) a) (ssOf (stC c Γ ow n) b))
    | .While t b [] _ => opt2 (fun t f => cWhile t f WF) (c.t Γ t) (ssOf (stC c Γ ow n) b)
    | .For tg it b [] _ => gd (noSet it) ((tgC Γ 8 tg).bind fun g => (opt2 (fun i f => fz (esc Γ ow 30 true it) (cForS i g.1 f)) (iterV c Γ tg it) (ssOf (stC c Γ ow n) b)))
    | .Expr (.Call (.Attribute (.Name x _) m apos) [e] [] cpos) _ => gd (visOk Γ x && notStar e && (apos.endLine == cpos.line))
        (if m = "append" then (opt2 (fun i f => fz (esc Γ ow 30 true e) (cAppend i f)) (slotOf Γ.N x) (c.v Γ e))
         else if m = "extend" then (opt2 cExtend (slotOf Γ.N x) (bw c Γ e)) else none)
    | _ => none
where noTuple : Expr → Bool
  | .Tuple .. => false
  | _ => true
end Pi

/-! Pi 14: the compilation of statements is right; defs; the law's end. -/
namespace Pi
open PySem PySem.Spec PyProof.Rows L2
section
variable {c : Cs} {Γ : Cfg} {X : Cx} {e a b : Expr} {es : List Expr} {f g : Cl} {fs : List Cl} {ρ : En} {p : PV} {ps : List PV} {st : Stmt} {cst : Cst}
theorem sole_no {e t : Expr} (h : notComp e = true) (l : Nat) (env : PySem.Env) : swapsWithSole [t] e l env = pure false := by
  unfold swapsWithSole
  exact swaps_no h _ _ _
theorem S_fzs (is : List Nat) (h : PS X st (uS X.K cst)) : PS X st (uS X.K (fz is cst)) := by
  cases is with
  | nil => exact h
  | cons i is => exact S_fz _ h
theorem Snd.rowR (S : Snd c) (G : Good Γ X) : ∀ {es : List Expr} {fs : List Cl} {ps : List PV}, Pi.rowV c Γ es = some fs → evs fs ρ = some ps → PA X es (tRow X.K ρ (es.map (isFr Γ)) ps)
  | [], _, _, h, e => by
    cases h
    cases e
    exact r_nil
  | e :: es, _, _, h, he => by
    obtain ⟨h1, h2⟩ := gd_eq h
    obtain ⟨f, fs, h3, h4, rfl⟩ := opt2_eq h2
    obtain ⟨p, h5, h6⟩ := Option.bind_eq_some_iff.mp he
    obtain ⟨ps, h7, rfl⟩ := Option.map_eq_some_iff.mp h6
    exact r_cons h1 (S.v X Γ e f G h3 ρ p h5) (Snd.rowR S G h4 h7)
theorem Snd.tup (S : Snd c) (G : Good Γ X) {x1 : Nat} {pos : Pos} (h : (Pi.rowV c Γ es).map cTup = some f) (hf : f ρ = some p) : PE X (.Tuple es x1 pos) (tE X.K ρ p) := by
  obtain ⟨fs, h1, rfl⟩ := Option.map_eq_some_iff.mp h
  obtain ⟨ps, e1, hf⟩ := Option.bind_eq_some_iff.mp hf
  split at hf
  · cases hf
    exact s_tup (S.rowV G h1 e1).1 (by assumption)
  · cases hf
theorem tgS_ok (S : Snd c) (G : Good Γ X) : ∀ (n : Nat) (e : Expr) (r : Tg), tgS c Γ n e = some r → PG X e (uGH X.K r) := by
  have nm : ∀ {x : Str} {px : Pos} {r : Tg}, gd (storeOk Γ x) ((slotOf Γ.N x).map gN) = some r → PG X (.Name x px) (uGH X.K r) := fun {x px r} h => by
    obtain ⟨h1, h2⟩ := gd_eq h
    obtain ⟨i, h3, rfl⟩ := Option.map_eq_some_iff.mp h2
    obtain ⟨l1, l2⟩ := G.store h1
    exact gh_of (g_name G.nd (by rw [G.N]; exact slotOf_get h3) l1 l2)
  have sb : ∀ {x : Str} {px pos : Pos} {e : Expr} {r : Tg}, gd (visOk Γ x && noSlice e) (opt2 cSubL (slotOf Γ.N x) (bw c Γ e)) = some r → PG X (.Subscript (.Name x px) e pos) (uGH X.K r) := fun {x px pos e r} h => by
    obtain ⟨h1, h2⟩ := gd_eq h
    simp only [Bool.and_eq_true] at h1
    obtain ⟨i, fe, h3, h4, rfl⟩ := opt2_eq h2
    refine gh_subL (by have := G.units; omega) (G.var h1.1 h3 px) (fun ρ p hp => S.bw G h4 hp) fun v => ?_
    cases e <;> first | rfl | (cases h1.2)
  intro n
  induction n with
  | zero =>
    intro e r h
    unfold tgS at h
    split at h
    · exact nm h
    · exact sb h
    · rename_i hn
      cases hn
    · cases h
  | succ n ih =>
    intro e r h
    unfold tgS at h
    split at h
    · exact nm h
    · exact sb h
    · rename_i n' es k pos hn
      cases hn
      obtain ⟨h1, h2⟩ := gd_eq h
      obtain ⟨r', h3, rfl⟩ := Option.map_eq_some_iff.mp h2
      have key : ∀ (es : List Expr) (r' : List PV → En → Option En), es.all notStar = true →
          es.foldr (fun e (o : Option (List PV → En → Option En)) => opt2 gsC (tgS c Γ n e) o) (some gsN) = some r' → PGs X es (uGHs X.K r') ∧ gsLen r' es.length := by
        intro es
        induction es with
        | nil =>
          intro r' _ h
          cases h
          exact ⟨ghs_nil, gsN_len⟩
        | cons e es ih2 =>
          intro r' hs h
          rw [List.all_cons, Bool.and_eq_true] at hs
          rw [List.foldr_cons] at h
          obtain ⟨q, qs, e1, e2, rfl⟩ := opt2_eq h
          obtain ⟨i1, i2⟩ := ih2 qs hs.2 e2
          exact ⟨ghs_cons hs.1 (ih e q e1) i1, gsC_len i2⟩
      obtain ⟨k1, k2⟩ := key es r' h1 h3
      exact gh_tup G.calm h1 k2 k1
    · cases h
theorem Good.kind (G : Good Γ X) (hk : Γ.sc.kind = .function) : X.env.scope.kind = .function := by rw [G.sc]; exact hk
theorem tupC_ok (S : Snd c) (G : Good Γ X) (hk : Γ.sc.kind = .function) {ts vs : List Expr} {k1 k2 : Nat} {p1 p2 pos : Pos} (h : tupC c Γ ts vs = some cst) : PS X (.Assign [.Tuple ts k1 p1] (.Tuple vs k2 p2) pos) (uS X.K cst) := by
  unfold tupC at h
  split at h
  · cases h
  · rename_i hsw
    have hw : swappedStores [.Tuple ts k1 p1] (.Tuple vs k2 p2) X.env = pure none := swap_eq (G.kind hk) G.sc hsw
    split at h
    · rename_i is his
      obtain ⟨h1, h2⟩ := gd_eq h
      obtain ⟨fs, h3, rfl⟩ := Option.map_eq_some_iff.mp h2
      obtain ⟨q1, q2, q3⟩ := nameSlots_ok G his
      obtain ⟨l1, l2⟩ := assign_len X.env q2
      have hl : is.length = vs.length := of_decide_eq_true h1
      refine S_row ((ps_asg (pe_tup (mkRow fun ρ ps he => S.rowR G h3 he)) (pg_tup (n := is.length) G.calm q1 (by rw [l1, q3]) l2) rfl hw rfl).mono fun D σ H ht => ?_)
      refine uRow_mono ht fun xs H1 ⟨m1, m2, m3, m4⟩ => ⟨m2, fun z hz => ⟨z, xs, rfl, .inl (.inl upd_same), m1, gNames_of m1.symm (m3 z hz)⟩⟩
    · obtain ⟨g, fe, h3, h4, rfl⟩ := opt2_eq h
      refine S_tg (tg := .Tuple ts k1 p1) (fun t ht => ps_asg ht ?_ rfl hw rfl) (fun ρ p hp => S.tup G h4 hp)
      exact tgS_ok S G 4 (.Tuple ts k1 p1) g (by
        have e : tgS c Γ 4 (.Tuple ts 0 ⟨0, 0, 0, 0⟩) = tgS c Γ 4 (.Tuple ts k1 p1) := rfl
        rw [← e]
        exact h3)
  · rename_i xs hsw
    have hw : ∀ {k1 k2 : Nat} {p1 p2 : Pos}, swappedStores [.Tuple ts k1 p1] (.Tuple vs k2 p2) X.env = pure (some xs) := swap_eq (G.kind hk) G.sc hsw
    split at h
    · rename_i x px y py a b
      obtain ⟨h1, h2⟩ := gd_eq h
      simp only [Bool.and_eq_true, decide_eq_true_eq] at h1
      obtain ⟨⟨hxs, lx⟩, ly⟩ := h1
      obtain ⟨i, hi, h2⟩ := Option.bind_eq_some_iff.mp h2
      obtain ⟨j, hj, h2⟩ := Option.bind_eq_some_iff.mp h2
      obtain ⟨hij, h2⟩ := gd_eq h2
      obtain ⟨fs, h3, rfl⟩ := Option.map_eq_some_iff.mp h2
      subst hxs
      refine S_row ((ps_par G.calm G.nd (by rw [G.N]; exact slotOf_get hi) (by rw [G.N]; exact slotOf_get hj) (of_decide_eq_true hij) (by rw [G.sc]; exact lx) (by rw [G.sc]; exact ly) (mkRow fun ρ ps he => S.rowR G h3 he) hw rfl).mono fun D σ H ht => ?_)
      refine uRow_mono ht fun vs H1 ⟨m1, m2, m3, m4⟩ => ?_
      match vs, m1, m4 with
      | [v, w], _, m4 => exact ⟨v, w, rfl, m4⟩
    · rename_i x px y py z pz a b d
      obtain ⟨h1, h2⟩ := gd_eq h
      simp only [Bool.and_eq_true, decide_eq_true_eq] at h1
      obtain ⟨⟨⟨hxs, lx⟩, ly⟩, lz⟩ := h1
      obtain ⟨i, hi, h2⟩ := Option.bind_eq_some_iff.mp h2
      obtain ⟨j, hj, h2⟩ := Option.bind_eq_some_iff.mp h2
      obtain ⟨l, hl, h2⟩ := Option.bind_eq_some_iff.mp h2
      obtain ⟨hij, h2⟩ := gd_eq h2
      simp only [Bool.and_eq_true, decide_eq_true_eq] at hij
      obtain ⟨fs, h3, rfl⟩ := Option.map_eq_some_iff.mp h2
      subst hxs
      refine S_row ((ps_par3 G.calm G.nd (by rw [G.N]; exact slotOf_get hi) (by rw [G.N]; exact slotOf_get hj) (by rw [G.N]; exact slotOf_get hl) hij.1.1 hij.1.2 hij.2 (by rw [G.sc]; exact lx) (by rw [G.sc]; exact ly) (by rw [G.sc]; exact lz) (mkRow fun ρ ps he => S.rowR G h3 he) hw rfl).mono fun D σ H ht => ?_)
      refine uRow_mono ht fun vs H1 ⟨m1, m2, m3, m4⟩ => ?_
      match vs, m1, m4 with
      | [v, w, u], _, m4 => exact ⟨v, w, u, rfl, m4⟩
    · cases h
theorem ssOf_ok {F : Stmt → Option Cst} (h : ∀ st cst, F st = some cst → PS X st (uS X.K cst)) : ∀ (sts : List Stmt) (cst : Cst), ssOf F sts = some cst → PSs X sts (uS X.K cst)
  | [], _, e => by cases e; exact S_nil
  | [st], cst, e => pss_one (h st cst e)
  | st :: st' :: sts, _, e => by
    obtain ⟨f, g, h1, h2, rfl⟩ := opt2_eq e
    exact S_cons (h st f h1) (ssOf_ok h (st' :: sts) g h2)
/-- name = comprehension, handed to the name at once -/
theorem S_setLc (S : Snd c) (G : Good Γ X) {i : Nat} {y : Str} {py : Pos} {elt tg iter : Expr} {ifs : List Expr} {scope : Scope} {pos spos : Pos} (hi : slotOf Γ.N y = some i) (hyl : Γ.sc.names.lookup y = some .local)
    (hsw : swapsWith (.ListComp elt [⟨tg, iter, ifs, 0⟩] scope pos) (some (.Name y py)) spos.line X.env = pure true) (h : compC c Γ elt tg iter ifs scope = some f) : PS X (.Assign [.Name y py] (.ListComp elt [⟨tg, iter, ifs, 0⟩] scope pos) spos) (uS X.K (cAsgF i f)) := by
  unfold compC at h
  obtain ⟨h1, h2⟩ := gd_eq h
  obtain ⟨g, h3, h4⟩ := Option.bind_eq_some_iff.mp h2
  obtain ⟨h5, h6⟩ := gd_eq h4
  obtain ⟨it, t, fe, h7, h8, h9, rfl⟩ := opt3_eq h6
  simp only [Bool.and_eq_true] at h1
  have ok : BlkOk X.N X.env.scope scope (ownOf Γ scope) := by
    rw [G.N, G.sc]
    exact blkOk_by h1.1
  have hv : ∀ i ∈ g.2, i ∈ (ownOf Γ scope).map (·.2) := fun i hi => of_decide_eq_true (List.all_eq_true.mp h5 i hi)
  refine ⟨fun pins s σ H D I ⟨B, F, ρ, ρ', fl, st, e, k⟩ => ?_⟩
  obtain ⟨p, e0, e'⟩ := Option.map_eq_some_iff.mp e
  cases e'
  obtain ⟨items, e1, hf⟩ := Option.bind_eq_some_iff.mp e0
  obtain ⟨l, e2, hf⟩ := Option.bind_eq_some_iff.mp hf
  split at hf
  · rename_i hz
    cases hf
    refine (ps_setLc (tt := uT X.K t) G.calm G.nd (by rw [G.N]; exact slotOf_get hi) (by rw [G.sc]; exact hyl) hsw (S.iterB G h7 e1) ok (fun s H C cl fp => (show PG _ _ (uG X.K g.1 g.2) from tgC_ok (G.blk scope s H C cl fp) _ _ _ h3)) (fun s H C cl fp => ?_) (fun s H C cl fp => (show PE _ _ (uE X.K fe) from mkE fun ρ p hp => S.val (G.blk scope s H C cl fp) h9 hp)) (folded_of h1.2 _)).run pins s σ H D I ?_
    · unfold ifsC at h8
      split at h8
      · cases h8
        exact t_yes
      · exact t_one (show PT _ _ (uT X.K t) from mkT fun ρ b hb => S.t _ _ _ _ (G.blk scope s H C cl fp) h8 ρ b hb)
      · cases h8
    · obtain ⟨B, F, st, kk⟩ := R_asgF st k
      exact ⟨B, F, st, fun J H1 F1 s1 o D hD => lc_walk st s1 o hD hv e2 (of_decide_eq_true hz) fun H' F' s2 r => kk _ _ _ (s1.trans s2) (r.mono s1.hh)⟩
  · cases hf
theorem S_setLc2 (S : Snd c) (G : Good Γ X) {i : Nat} {y : Str} {py : Pos} {elt tg iter tg1 iter1 : Expr} {ifs ifs1 : List Expr} {scope : Scope} {pos spos : Pos} (hi : slotOf Γ.N y = some i) (hyl : Γ.sc.names.lookup y = some .local)
    (hsw : swapsWith (.ListComp elt [⟨tg, iter, ifs, 0⟩, ⟨tg1, iter1, ifs1, 0⟩] scope pos) (some (.Name y py)) spos.line X.env = pure true) (h : compC2 c Γ elt tg iter ifs tg1 iter1 ifs1 scope = some f) : PS X (.Assign [.Name y py] (.ListComp elt [⟨tg, iter, ifs, 0⟩, ⟨tg1, iter1, ifs1, 0⟩] scope pos) spos) (uS X.K (cAsgF i f)) := by
  unfold compC2 at h
  obtain ⟨h1, h2⟩ := gd_eq h
  obtain ⟨g, h3, h4⟩ := Option.bind_eq_some_iff.mp h2
  obtain ⟨g1, h3', h4'⟩ := Option.bind_eq_some_iff.mp h4
  obtain ⟨h5, h6⟩ := gd_eq h4'
  obtain ⟨it, t, r, h7, h8, h9, rfl⟩ := opt3_eq h6
  obtain ⟨it1, t1, fe, h10, h11, h12, rfl⟩ := opt3_eq h9
  simp only [Bool.and_eq_true] at h1 h5
  have ok : BlkOk X.N X.env.scope scope (ownOf Γ scope) := by
    rw [G.N, G.sc]
    exact blkOk_by h1.1.1
  have hv : ∀ i ∈ g.2, i ∈ (ownOf Γ scope).map (·.2) := fun i hi => of_decide_eq_true (List.all_eq_true.mp h5.1 i hi)
  have hv1 : ∀ i ∈ g1.2, i ∈ (ownOf Γ scope).map (·.2) := fun i hi => of_decide_eq_true (List.all_eq_true.mp h5.2 i hi)
  refine ⟨fun pins s σ H D I ⟨B, F, ρ, ρ', fl, st, e, k⟩ => ?_⟩
  obtain ⟨p, e0, e'⟩ := Option.map_eq_some_iff.mp e
  cases e'
  obtain ⟨items, e1, hf⟩ := Option.bind_eq_some_iff.mp e0
  obtain ⟨l, e2, hf⟩ := Option.bind_eq_some_iff.mp hf
  split at hf
  · rename_i hz
    cases hf
    refine (ps_setLc2 (tt := uT X.K t) (tt1 := uT X.K t1) (wi1 := wI1 X.K it1) G.calm G.nd (by rw [G.N]; exact slotOf_get hi) (by rw [G.sc]; exact hyl) hsw (S.iterB G h7 e1) ok hv1 (fun s H C cl fp => (show PG _ _ (uG X.K g.1 g.2) from tgC_ok (G.blk scope s H C cl fp) _ _ _ h3)) (fun s H C cl fp => S.ifs (G.blk scope s H C cl fp) h8)
      (fun s H C cl fp => mkI1 fun ρ items hi => S.iterV (G.blk scope s H C cl fp) h10 hi) (fun s H C cl fp => (show PG _ _ (uG X.K g1.1 g1.2) from tgC_ok (G.blk scope s H C cl fp) _ _ _ h3')) (fun s H C cl fp => S.ifs (G.blk scope s H C cl fp) h11) (fun s H C cl fp => (show PE _ _ (uE X.K fe) from mkE fun ρ p hp => S.val (G.blk scope s H C cl fp) h12 hp)) (folded_of h1.1.2 _) (fun env => folded_of h1.2 env)).run pins s σ H D I ?_
    obtain ⟨B, F, st, kk⟩ := R_asgF st k
    exact ⟨B, F, st, fun J H1 F1 s1 o D hD => lc2_walk wI1_of st s1 o hD hv e2 (of_decide_eq_true hz) fun H' F' s2 r => kk _ _ _ (s1.trans s2) (r.mono s1.hh)⟩
  · cases hf
theorem compC2_v (n : Nat) {elt tg iter tg1 iter1 : Expr} {ifs ifs1 : List Expr} {scope : Scope} {pos : Pos} (h : (cs (n + 1)).v Γ (.ListComp elt [⟨tg, iter, ifs, 0⟩, ⟨tg1, iter1, ifs1, 0⟩] scope pos) = some f) : compC2 (cs n) Γ elt tg iter ifs tg1 iter1 ifs1 scope = some f := h
theorem compC_v (n : Nat) {elt tg iter : Expr} {ifs : List Expr} {scope : Scope} {pos : Pos} (h : (cs (n + 1)).v Γ (.ListComp elt [⟨tg, iter, ifs, 0⟩] scope pos) = some f) : compC (cs n) Γ elt tg iter ifs scope = some f := h
theorem stC_ok {m : Nat} {ow : List Nat} (G : Good Γ X) (hk : Γ.sc.kind = .function) : ∀ (n : Nat) (st : Stmt) (cst : Cst), stC (cs (m + 1)) Γ ow n st = some cst → PS X st (uS X.K cst) := by
  have S := snd (m + 1)
  intro n
  induction n with
  | zero => intro st cst h; cases h
  | succ n ih =>
    intro st cst h
    unfold stC at h
    split at h
    · cases h; exact S_pass
    · cases h; exact S_brk
    · cases h; exact S_cnt
    · cases h; exact S_retN
    · obtain ⟨h1, h2⟩ := gd_eq h
      obtain ⟨i, h3, rfl⟩ := Option.map_eq_some_iff.mp h2
      exact S_retVar (G.var h1 h3 _)
    · obtain ⟨f, h1, rfl⟩ := Option.map_eq_some_iff.mp h
      exact S_fzs _ (S_ret fun ρ p hp => S.val G h1 hp)
    · rename_i x px elt tg iter ifs scope vpos spos
      obtain ⟨c0, h1, rfl⟩ := Option.map_eq_some_iff.mp h
      refine S_fzs _ ?_
      obtain ⟨h2, h3⟩ := gd_eq h1
      obtain ⟨i, hi, h4⟩ := Option.bind_eq_some_iff.mp h3
      obtain ⟨f, hf, h5⟩ := Option.map_eq_some_iff.mp h4
      have e1 : c0 = cAsgF i f := h5.symm
      subst e1
      obtain ⟨l1, l2⟩ := G.store h2
      have hsw := swB_eq (sc := Γ.sc) (x := x) (px := px) (pos := vpos) (scope := scope) (elt := elt) (gs := [⟨tg, iter, ifs, 0⟩]) (l := spos.line) (G.kind hk) G.sc
      cases hb : swB Γ.sc x px scope vpos with
      | true =>
        rw [hb] at hsw
        have hl : Γ.sc.names.lookup x = some .local := by
          unfold swB at hb
          simp only [Bool.and_eq_true, beq_iff_eq] at hb
          exact hb.1.1
        exact S_setLc (snd m) G hi hl hsw (compC_v m hf)
      | false =>
        rw [hb] at hsw
        exact S_store (fr := true) (fun t ht => ps_set G.nd (by rw [G.N]; exact slotOf_get hi) l1 ht hsw l2) fun ρ p hp => S.v X Γ _ f G hf ρ p hp
    · rename_i x px elt tg iter ifs tg1 iter1 ifs1 scope vpos spos
      obtain ⟨c0, h1, rfl⟩ := Option.map_eq_some_iff.mp h
      refine S_fzs _ ?_
      obtain ⟨h2, h3⟩ := gd_eq h1
      obtain ⟨i, hi, h4⟩ := Option.bind_eq_some_iff.mp h3
      obtain ⟨f, hf, h5⟩ := Option.map_eq_some_iff.mp h4
      have e1 : c0 = cAsgF i f := h5.symm
      subst e1
      obtain ⟨l1, l2⟩ := G.store h2
      have hsw := swB_eq (sc := Γ.sc) (x := x) (px := px) (pos := vpos) (scope := scope) (elt := elt) (gs := [⟨tg, iter, ifs, 0⟩, ⟨tg1, iter1, ifs1, 0⟩]) (l := spos.line) (G.kind hk) G.sc
      cases hb : swB Γ.sc x px scope vpos with
      | true =>
        rw [hb] at hsw
        have hl : Γ.sc.names.lookup x = some .local := by
          unfold swB at hb
          simp only [Bool.and_eq_true, beq_iff_eq] at hb
          exact hb.1.1
        exact S_setLc2 (snd m) G hi hl hsw (compC2_v m hf)
      | false =>
        rw [hb] at hsw
        exact S_store (fr := true) (fun t ht => ps_set G.nd (by rw [G.N]; exact slotOf_get hi) l1 ht hsw l2) fun ρ p hp => S.v X Γ _ f G hf ρ p hp
    · rename_i x px e spos _ _
      obtain ⟨h0, h⟩ := gd_eq h
      obtain ⟨c0, h1, rfl⟩ := Option.map_eq_some_iff.mp h
      refine S_fzs _ ?_
      obtain ⟨h2, h3⟩ := gd_eq h1
      obtain ⟨i, hi, h4⟩ := Option.bind_eq_some_iff.mp h3
      obtain ⟨f, hf, rfl⟩ := Option.map_eq_some_iff.mp h4
      obtain ⟨l1, l2⟩ := G.store h2
      exact S_store (fun t ht => ps_set G.nd (by rw [G.N]; exact slotOf_get hi) l1 ht (swaps_no h0 _ _ _) l2) fun ρ p hp => S.v X Γ _ f G hf ρ p hp
    · obtain ⟨c0, h1, rfl⟩ := Option.map_eq_some_iff.mp h
      exact S_fzs _ (tupC_ok S G hk h1)
    · rename_i ts k tp e spos _
      obtain ⟨h0, h⟩ := gd_eq h
      simp only [Bool.and_eq_true] at h0
      obtain ⟨c0, h1, rfl⟩ := Option.map_eq_some_iff.mp h
      refine S_fzs _ ?_
      obtain ⟨g, f, h3, h4, rfl⟩ := opt2_eq h1
      refine S_tg (tg := .Tuple ts k tp) (fun t ht => ps_asg ht (tgS_ok S G 4 _ g h3) (sole_no h0.1 _ _) ?_ rfl) (fun ρ p hp => S.val G h4 hp)
      have h02 := h0.2
      cases e <;> first | rfl | (cases h02)
    · rename_i a i tp e spos
      obtain ⟨h0, h⟩ := gd_eq h
      obtain ⟨c0, h1, rfl⟩ := Option.map_eq_some_iff.mp h
      refine S_fzs _ ?_
      obtain ⟨g, f, h3, h4, rfl⟩ := opt2_eq h1
      exact S_tg (tg := .Subscript a i tp) (fun t ht => ps_asg ht (tgS_ok S G 4 _ g h3) (sole_no h0 _ _) rfl rfl) (fun ρ p hp => S.val G h4 hp)
    · obtain ⟨h1, h2⟩ := gd_eq h
      obtain ⟨i, hi, h3⟩ := Option.bind_eq_some_iff.mp h2
      obtain ⟨f, hf, rfl⟩ := Option.map_eq_some_iff.mp h3
      obtain ⟨l1, l2⟩ := G.store h1
      exact S_aug G.nd (by rw [G.N]; exact slotOf_get hi) l1 l2 fun ρ p hp => S.bw G hf hp
    · rename_i x px ie tpos op e spos
      obtain ⟨h1, h2⟩ := gd_eq h
      simp only [Bool.and_eq_true] at h1
      obtain ⟨i, hi, h3⟩ := Option.bind_eq_some_iff.mp h2
      obtain ⟨ix, f, h4, h5, rfl⟩ := opt2_eq h3
      refine S_augS (G.var h1.1 hi px) (fun ρ p hp => S.bw G h4 hp) (fun ρ p hp => S.bw G h5 hp) fun ov iv new => ?_
      cases ie <;> first | rfl | (cases h1.2)
    · obtain ⟨t, f, g, h1, h2, h3, rfl⟩ := opt3_eq h
      exact S_if (fun ρ b hb => S.t X Γ _ t G h1 ρ b hb) (ssOf_ok ih _ _ h2) (ssOf_ok ih _ _ h3)
    · obtain ⟨t, f, h1, h2, rfl⟩ := opt2_eq h
      exact S_while G.xe (fun ρ b hb => S.t X Γ _ t G h1 ρ b hb) (ssOf_ok ih _ _ h2)
    · obtain ⟨h0, h⟩ := gd_eq h
      obtain ⟨g, h1, h2⟩ := Option.bind_eq_some_iff.mp h
      obtain ⟨it, f, h3, h4, rfl⟩ := opt2_eq h2
      exact S_fzs _ (S_for G.xe G.calm (fun ρ items hi => S.iterV G h3 hi) (tgC_ok G 8 _ g h1) (ssOf_ok ih _ _ h4) h0)
    · obtain ⟨h0, h9⟩ := gd_eq h
      clear h
      simp only [Bool.and_eq_true] at h0
      obtain ⟨⟨h0, h1⟩, h2⟩ := h0
      split at h9
      · rename_i em
        subst em
        obtain ⟨i, f, h3, h4, rfl⟩ := opt2_eq h9
        exact S_fzs _ (S_append (G.var h0 h3 _) h1 h2 fun ρ p hp => S.val G h4 hp)
      · split at h9
        · rename_i em
          subst em
          obtain ⟨i, f, h3, h4, rfl⟩ := opt2_eq h9
          exact S_extend (G.var h0 h3 _) h1 h2 fun ρ p hp => S.bw G h4 hp
        · cases h9
    · cases h
end

/-! ### defs -/
def entry (n : Nat) (args : List PV) : En := args.map Sl.val ++ List.replicate (n - args.length) Sl.un
def runF (body : Cst) (n : Nat) (args : List PV) : Option PV := match body (entry n args) with
  | some (_, .rt p) => some p
  | some (_, .nx) => some .non
  | _ => none
section
variable {P : Program} {w : World} {K : PySem.W.Frag} {mg : Str → Option Value} {base : Heap}
/-- a def of the program at level k keeps the pure function g -/
structure FnP (P : Program) (w : World) (K : PySem.W.Frag) (mg : Str → Option Value) (base : Heap) (x : Str) (k : Nat) (g : List PV → Option PV) : Prop where
  ex : ∃ f fd pn, FnOk P w K mg base CX0 k f fd pn (fun vs H Q E => vs.length = pn.length ∧ spP K g vs H Q E) ∧ mg x = some (.ref f) ∧ PySem.W.keepIn K (.ref f) = true ∧ Binds K fd pn [] ∧ ∀ ps r, g ps = some r → ps.length = pn.length
/-- a def as it stands behind the top -/
structure Df (K : PySem.W.Frag) (mg : Str → Option Value) (x : Str) (st : Stmt) (pn : List Str) : Prop where
  ex : ∃ f fd, Fun K x x st f fd ∧ mg x = some (.ref f) ∧ Binds K fd pn []
theorem start_rel {N : List Str} {F H : Hp} {ps : List PV} {vs : List V} (sf : Same F H) (r : Reps K F ps vs) (hl : vs.length ≤ N.length) : StR K ⟨H, F⟩ (entry N.length ps) (L2.start N vs) H F where
  len := by
    unfold entry L2.start
    rw [List.length_append, List.length_map, List.length_replicate, List.length_append, List.length_map, List.length_replicate, r.length]
  fh := sf
  hb := Same.refl H
  fb := Same.refl F
  fn := fun a o e => .inl e
  sl := fun i s e => by
    unfold entry at e
    unfold L2.start
    by_cases hi : i < ps.length
    · rw [List.getElem?_append_left (by simpa using hi), List.getElem?_map] at e
      rw [List.getElem?_append_left (by rw [List.length_map, ← r.length]; exact hi), List.getElem?_map]
      cases q : ps[i]? with
      | none => rw [q] at e; cases e
      | some p =>
        rw [q] at e
        cases e
        obtain ⟨v, hv, rv⟩ := r.get q
        rw [hv]
        exact ⟨v, rfl, rv⟩
    · rw [List.getElem?_append_right (by simpa using hi), List.getElem?_replicate] at e
      split at e
      · cases e; trivial
      · cases e
  ob := fun i p a e => by
    exfalso
    unfold entry at e
    by_cases hi : i < ps.length
    · rw [List.getElem?_append_left (by simpa using hi), List.getElem?_map] at e
      cases q : ps[i]? with
      | none => rw [q] at e; cases e
      | some p => rw [q] at e; cases e
    · rw [List.getElem?_append_right (by simpa using hi), List.getElem?_replicate] at e
      split at e <;> cases e
  dj := fun i j p q a e => by
    exfalso
    unfold entry at e
    by_cases hi : i < ps.length
    · rw [List.getElem?_append_left (by simpa using hi), List.getElem?_map] at e
      cases q : ps[i]? with
      | none => rw [q] at e; cases e
      | some p => rw [q] at e; cases e
    · rw [List.getElem?_append_right (by simpa using hi), List.getElem?_replicate] at e
      split at e <;> cases e
def cfgOf (N : List Str) (st : Stmt) (blt : List Str) (fns : List (Str × (List PV → Option PV))) : Cfg := ⟨N, defScope st, fun _ => true, blt, fns⟩
def bodyOf (N : List Str) (st : Stmt) (blt : List Str) (fns : List (Str × (List PV → Option PV))) : Option Cst :=
  ssOf (stC (cs 40) (cfgOf N st blt fns) (ownables (cfgOf N st blt fns) 20 (defBody st)) 20) (defBody st)
theorem fn_ok2 {x : Str} {st : Stmt} {N pn : List Str} {k : Nat} {blt : List Str} {fns : List (Str × (List PV → Option PV))} {body : Cst} {g : List PV → Option PV} {f : Addr} {fd : FuncData} (F : Fun K x x st f fd) (S : FnScope N pn (defScope st)) (hb : bodyOf N st blt fns = some body)
    (hblt : ∀ y ∈ blt, mg y = none) (hfns : ∀ y h, fns.lookup y = some h → ∃ j, j ≤ k ∧ FnP P w K mg base y j h) (hg : ∀ ps r, g ps = some r → ps.length = pn.length ∧ runF body N.length ps = some r) :
    FnOk P w K mg base CX0 (k + 1) f fd pn (fun vs H Q E => vs.length = pn.length ∧ spP K g vs H Q E) := by
  refine F.ok S (fun vs H Q E h => h.1) fun cdv A outer s H vs Q E hr h => ?_
  obtain ⟨hl, F0, ps, r, sf, rr, hr2, kk⟩ := h
  have hpl : pn.length ≤ N.length := by
    have := congrArg List.length S.pre
    rw [List.length_take] at this
    omega
  obtain ⟨_, hrun⟩ := hg ps r hr2
  have G : Good (cfgOf N st blt fns) (cxOf CX0 P w K mg base N x (defScope st) f cdv A outer s H E).nox :=
    ⟨rfl, S.nd, rfl, rfl, rfl, rfl, hblt, fun y h hy => by
      obtain ⟨j, hj, f', fd', pn', h1, h2, h3, h4, h5⟩ := hfns y h hy
      exact ⟨j, f', fd', pn', h1, hr.mono hj, h2, h3, h4, h5⟩, by
      have := hr.un
      show (A.deeper _).units + 100 < _
      omega⟩
  refine ⟨_, ssOf_ok (stC_ok (m := 39) G S.kind 20) _ _ hb, ?_⟩
  have st0 := start_rel (N := N) sf rr (by omega)
  unfold runF at hrun
  split at hrun
  · rename_i ρ' p e
    cases hrun
    exact ⟨⟨H, F0⟩, F0, _, ρ', _, st0, e, fun v H' F' s r => kk v H' F' s r⟩
  · rename_i ρ' e
    cases hrun
    exact ⟨⟨H, F0⟩, F0, _, ρ', _, st0, e, fun σ' H' F' s => kk _ H' F' s.base .non⟩
  · cases hrun
theorem fn_ok {x : Str} {st : Stmt} {N pn : List Str} {k : Nat} {blt : List Str} {fns : List (Str × (List PV → Option PV))} {body : Cst} {g : List PV → Option PV} (D : Df K mg x st pn) (S : FnScope N pn (defScope st)) (hb : bodyOf N st blt fns = some body)
    (hblt : ∀ y ∈ blt, mg y = none) (hfns : ∀ y h, fns.lookup y = some h → ∃ j, j ≤ k ∧ FnP P w K mg base y j h) (hg : ∀ ps r, g ps = some r → ps.length = pn.length ∧ runF body N.length ps = some r) : FnP P w K mg base x (k + 1) g := by
  obtain ⟨f, fd, F, hm, bd⟩ := D.ex
  exact ⟨f, fd, pn, fn_ok2 F S hb hblt hfns hg, hm, F.kp, bd, fun ps r h => (hg ps r h).1⟩
/-- before anything is known of it -/
theorem FnP.zero {x : Str} {st : Stmt} {pn : List Str} (D : Df K mg x st pn) : FnP P w K mg base x 0 (fun _ => none) := by
  obtain ⟨f, fd, F, hm, bd⟩ := D.ex
  exact ⟨f, fd, pn, ⟨fun vs H Q E h => h.1, fun A outer s H args us vs Q E _ _ _ _ h => by
    obtain ⟨_, _, _, _, _, _, h, _⟩ := h
    cases h⟩, hm, F.kp, bd, fun ps r h => by cases h⟩
theorem hf_nil {k : Nat} : ∀ y h, List.lookup y ([] : List (Str × (List PV → Option PV))) = some h → ∃ j, j ≤ k ∧ FnP P w K mg base y j h := fun y h e => by cases e
theorem hf_cons {k j : Nat} {x : Str} {g : List PV → Option PV} {fns : List (Str × (List PV → Option PV))} (h1 : FnP P w K mg base x j g) (h2 : ∀ y h, fns.lookup y = some h → ∃ j, j ≤ k ∧ FnP P w K mg base y j h) (hj : j ≤ k := by decide) : ∀ y h, List.lookup y ((x, g) :: fns) = some h → ∃ j, j ≤ k ∧ FnP P w K mg base y j h := fun y h e => by
  rw [List.lookup_cons] at e
  split at e
  · rename_i c
    cases e
    have := eq_of_beq c
    subst this
    exact ⟨j, hj, h1⟩
  · exact h2 y h e
theorem hb_nil {mg : Str → Option Value} : ∀ y ∈ ([] : List Str), mg y = none := fun y h => by cases h
theorem hb_cons {mg : Str → Option Value} {x : Str} {l : List Str} (h1 : mg x = none) (h2 : ∀ y ∈ l, mg y = none) : ∀ y ∈ x :: l, mg y = none := fun y h => by
  rcases List.mem_cons.mp h with rfl | h
  · exact h1
  · exact h2 y h
theorem FnP.mono {x : Str} {j k : Nat} {g : List PV → Option PV} (h : FnP P w K mg base x j g) (hj : j ≤ k) : FnP P w K mg base x k g := by
  obtain ⟨f, fd, pn, h1, h2, h3, h4, h5⟩ := h.ex
  exact ⟨f, fd, pn, h1.mono hj, h2, h3, h4, h5⟩
/-- a lesser function is kept, too -/
theorem FnP.imp {x : Str} {k : Nat} {g g' : List PV → Option PV} (h : FnP P w K mg base x k g) (hi : ∀ ps r, g' ps = some r → g ps = some r) : FnP P w K mg base x k g' := by
  obtain ⟨f, fd, pn, h1, h2, h3, h4, h5⟩ := h.ex
  exact ⟨f, fd, pn, h1.imp fun vs H Q E ⟨q0, F, ps, r, q1, q2, q3, q4⟩ => ⟨q0, F, ps, r, q1, q2, hi ps r q3, q4⟩, h2, h3, h4, fun ps r e => h5 ps r (hi ps r e)⟩
/-- what the law's own def is to keep -/
def spLaw (K : PySem.W.Frag) : Sp := fun vs H Q _ => ∃ (a : Addr) (ns : List Int), vs = [.ref a] ∧ SqL K H a (ns.map V.int) ∧ ns.length ≤ 63 ∧ ∀ H', Q (.bl true) H'
theorem law_ok {k : Nat} {g : List PV → Option PV} {f : Addr} {fd : FuncData} {pn : List Str} (h : FnOk P w K mg base CX0 k f fd pn (fun vs H Q E => vs.length = pn.length ∧ spP K g vs H Q E)) (hl : pn.length = 1) (hg : ∀ ns : List Int, ns.length ≤ 63 → g [.scr (ns.map PV.int)] = some (.bl true)) : FnOk P w K mg base CX0 k f fd pn (spLaw K) := by
  refine h.imp fun vs H Q E ⟨a, ns, ev, hs, hn, q⟩ => ?_
  subst ev
  refine ⟨by rw [hl]; rfl, fun b => if b = a then H a else none, [.scr (ns.map PV.int)], .bl true, fun b o e => ?_, .cons (.scr (xs := ns.map V.int) ?_ (.of_ints ns)) .nil, hg ns hn, fun v H' F' s r => ?_⟩
  · dsimp only at e
    split at e
    · rename_i hb
      rw [hb]
      exact e
    · cases e
  · rcases hs with (hs | ⟨o, hs⟩) | hs
    · exact .inl (.inl (by dsimp only; rw [if_pos rfl]; exact hs))
    · exact .inl (.inr ⟨o, by dsimp only; rw [if_pos rfl]; exact hs⟩)
    · exact .inr hs
  · cases r
    exact q H'
end
end Pi

/-! Pi 15: how closures are run on paper. -/
namespace Pi
open PySem PySem.Spec PyProof.Rows L2
/-! ### statements -/
def Wp (f : Cst) (ρ : En) (Q : En → Fl → Prop) : Prop := ∃ ρ' fl, f ρ = some (ρ', fl) ∧ Q ρ' fl
section
variable {f g : Cst} {h : Cl} {ρ : En} {Q : En → Fl → Prop} {p q : PV} {i : Nat}
theorem Wp.mono {Q' : En → Fl → Prop} (w : Wp f ρ Q) (h : ∀ ρ' fl, Q ρ' fl → Q' ρ' fl) : Wp f ρ Q' := by
  obtain ⟨ρ', fl, e, q⟩ := w
  exact ⟨ρ', fl, e, h _ _ q⟩
theorem wp_seq (w : Wp f ρ fun ρ1 fl => match fl with
    | .nx => Wp g ρ1 Q
    | fl => Q ρ1 fl) : Wp (cSeq f g) ρ Q := by
  obtain ⟨ρ1, fl, e, w⟩ := w
  cases fl with
  | nx =>
    obtain ⟨ρ2, fl2, e2, q⟩ := w
    exact ⟨ρ2, fl2, by simp only [cSeq, e, Option.bind_some]; exact e2, q⟩
  | bk => exact ⟨ρ1, .bk, by simp only [cSeq, e, Option.bind_some], w⟩
  | ct => exact ⟨ρ1, .ct, by simp only [cSeq, e, Option.bind_some], w⟩
  | rt p => exact ⟨ρ1, .rt p, by simp only [cSeq, e, Option.bind_some], w⟩
/-- first a step that goes on -/
theorem wp_nx {ρ1 : En} (e : f ρ = some (ρ1, .nx)) (w : Wp g ρ1 Q) : Wp (cSeq f g) ρ Q := wp_seq ⟨ρ1, .nx, e, w⟩
theorem wp_rt {ρ1 : En} (e : f ρ = some (ρ1, .rt p)) (w : Q ρ1 (.rt p)) : Wp (cSeq f g) ρ Q := wp_seq ⟨ρ1, .rt p, e, w⟩
theorem wp_ret (e : h ρ = some p) (w : Q ρ (.rt p)) : Wp (cRet h) ρ Q := ⟨ρ, .rt p, by unfold cRet; (try dsimp only); rw [e]; rfl, w⟩
theorem wp_skip (w : Q ρ .nx) : Wp cSkip ρ Q := ⟨ρ, .nx, rfl, w⟩
theorem wp_asgV (e : h ρ = some p) (w : Q (ρ.set i (.val p)) .nx) : Wp (cAsgV i h) ρ Q := ⟨_, .nx, by unfold cAsgV; (try dsimp only); rw [e]; rfl, w⟩
theorem wp_asgF (e : h ρ = some p) (w : Q (ρ.set i (if p.isCont then .own p else .val p)) .nx) : Wp (cAsgF i h) ρ Q := ⟨_, .nx, by unfold cAsgF; (try dsimp only); rw [e]; rfl, w⟩
theorem wp_append {l : List PV} (hi : ρ[i]? = some (.own (.lst l))) (e : h ρ = some p) (hl : l.length < sizeLine) (w : Q (ρ.set i (.own (.lst (l ++ [p])))) .nx) : Wp (cAppend i h) ρ Q := ⟨_, .nx, by
  unfold cAppend
  try dsimp only
  rw [hi]
  dsimp only
  rw [e]
  dsimp only [Option.bind]
  rw [if_pos hl], w⟩
theorem wp_fz {is : List Nat} (w : Wp f (frz is ρ) Q) : Wp (cFz is f) ρ Q := w
theorem wp_if {t : Ct} {b : Bool} (e : t ρ = some b) (h1 : b = true → Wp f ρ Q) (h2 : b = false → Wp g ρ Q) : Wp (cIfS t f g) ρ Q := by
  unfold Wp cIfS
  try dsimp only
  rw [e]
  cases b with
  | true => exact h1 rfl
  | false => exact h2 rfl
theorem wp_ifT {t : Ct} (e : t ρ = some true) (w : Wp f ρ Q) : Wp (cIfS t f g) ρ Q := wp_if e (fun _ => w) (fun z => by cases z)
theorem wp_ifF {t : Ct} (e : t ρ = some false) (w : Wp g ρ Q) : Wp (cIfS t f g) ρ Q := wp_if e (fun z => by cases z) (fun _ => w)
/-- a test that is decided by a proposition -/
theorem wp_ifD {t : Ct} {P : Prop} {_ : Decidable P} (e : t ρ = some (decide P)) (h1 : P → Wp f ρ Q) (h2 : ¬P → Wp g ρ Q) : Wp (cIfS t f g) ρ Q := wp_if e (fun z => h1 (of_decide_eq_true z)) (fun z => h2 (of_decide_eq_false z))
/-- a for loop, by an invariant -/
theorem wp_for {it : Ci} {tg : Tg} {items : List PV} (I : Nat → En → Prop) (e : it ρ = some items) (h0 : I 0 ρ)
    (hs : ∀ i p ρ1, items[i]? = some p → I i ρ1 → ∃ ρ2, tg p ρ1 = some ρ2 ∧ Wp f ρ2 fun ρ3 fl => match fl with
      | .nx => I (i + 1) ρ3
      | .ct => I (i + 1) ρ3
      | .bk => Q ρ3 .nx
      | .rt p => Q ρ3 (.rt p))
    (hq : ∀ ρ1, I items.length ρ1 → Q ρ1 .nx) : Wp (cForS it tg f) ρ Q := by
  have key : ∀ (l : List PV) (i : Nat) (ρ1 : En), i + l.length = items.length → items.drop i = l → I i ρ1 → Wp (cFor tg f l) ρ1 Q := by
    intro l
    induction l with
    | nil =>
      intro i ρ1 hl hd hi
      have e : i = items.length := by simpa using hl
      exact ⟨ρ1, .nx, rfl, hq _ (e ▸ hi)⟩
    | cons p l ih =>
      intro i ρ1 hl hd hi
      rw [List.length_cons] at hl
      have hlt : i < items.length := by omega
      have hp : items[i]? = some p := by
        have e2 := List.getElem?_drop (xs := items) (i := i) (j := 0)
        rw [hd] at e2
        simpa using e2.symm
      have hd2 : items.drop (i + 1) = l := by
        rw [← List.drop_drop, hd]
        rfl
      obtain ⟨ρ2, e2, ρ3, fl, e3, w⟩ := hs i p ρ1 hp hi
      have go : I (i + 1) ρ3 → fl = .nx ∨ fl = .ct → Wp (cFor tg f (p :: l)) ρ1 Q := fun hi3 hf => by
        obtain ⟨ρ4, fl4, e4, w4⟩ := ih (i + 1) ρ3 (by omega) hd2 hi3
        refine ⟨ρ4, fl4, ?_, w4⟩
        unfold cFor
        try dsimp only
        rw [e2]
        dsimp only [Option.bind]
        rw [e3]
        rcases hf with rfl | rfl <;> exact e4
      cases fl with
      | nx => exact go w (.inl rfl)
      | ct => exact go w (.inr rfl)
      | bk => exact ⟨ρ3, .nx, by unfold cFor; (try dsimp only); rw [e2]; dsimp only [Option.bind]; rw [e3], w⟩
      | rt q => exact ⟨ρ3, .rt q, by unfold cFor; (try dsimp only); rw [e2]; dsimp only [Option.bind]; rw [e3], w⟩
  obtain ⟨ρ', fl, e1, q⟩ := key items 0 ρ (by simp) (by simp) h0
  exact ⟨ρ', fl, by unfold cForS; (try dsimp only); rw [e]; exact e1, q⟩
/-- a while loop, by an invariant that falls -/
theorem wp_while {t : Ct} {n : Nat} (I : Nat → En → Prop)
    (hs : ∀ k ρ1, I k ρ1 → ∃ b, t ρ1 = some b ∧ (b = true → Wp f ρ1 fun ρ3 fl => match fl with
      | .nx => ∃ j, j < k ∧ I j ρ3
      | .ct => ∃ j, j < k ∧ I j ρ3
      | .bk => Q ρ3 .nx
      | .rt p => Q ρ3 (.rt p)) ∧ (b = false → Q ρ1 .nx)) : ∀ (k : Nat) (ρ : En), k < n → I k ρ → Wp (cWhile t f n) ρ Q := by
  induction n with
  | zero => intro k ρ hk; omega
  | succ n ih =>
    intro k ρ hk hi
    obtain ⟨b, e, h1, h2⟩ := hs k ρ hi
    cases b with
    | false => exact ⟨ρ, .nx, by unfold cWhile; (try dsimp only); rw [e]; rfl, h2 rfl⟩
    | true =>
      obtain ⟨ρ3, fl, e3, w⟩ := h1 rfl
      have go : (∃ j, j < k ∧ I j ρ3) → fl = .nx ∨ fl = .ct → Wp (cWhile t f (n + 1)) ρ Q := fun ⟨j, hj, hi3⟩ hf => by
        obtain ⟨ρ4, fl4, e4, w4⟩ := ih j ρ3 (by omega) hi3
        refine ⟨ρ4, fl4, ?_, w4⟩
        unfold cWhile
        try dsimp only
        rw [e]
        dsimp only [Option.bind]
        rw [if_pos rfl, e3]
        rcases hf with rfl | rfl <;> exact e4
      cases fl with
      | nx => exact go w (.inl rfl)
      | ct => exact go w (.inr rfl)
      | bk => exact ⟨ρ3, .nx, by unfold cWhile; (try dsimp only); rw [e]; dsimp only [Option.bind]; rw [if_pos rfl, e3], w⟩
      | rt q => exact ⟨ρ3, .rt q, by unfold cWhile; (try dsimp only); rw [e]; dsimp only [Option.bind]; rw [if_pos rfl, e3], w⟩
end
/-- the def's end -/
theorem run_of {body : Cst} {n : Nat} {args : List PV} {r : PV} (w : Wp body (entry n args) fun _ fl => fl = .rt r ∨ (fl = .nx ∧ r = .non)) : runF body n args = some r := by
  obtain ⟨ρ', fl, e, q⟩ := w
  unfold runF
  rw [e]
  rcases q with rfl | ⟨rfl, rfl⟩ <;> rfl
theorem run_ex {body : Cst} {n : Nat} {args : List PV} {R : PV → Prop} (w : Wp body (entry n args) fun _ fl => ∃ r, fl = .rt r ∧ R r) : ∃ r, runF body n args = some r ∧ R r := by
  obtain ⟨ρ', fl, e, r, rfl, q⟩ := w
  exact ⟨r, by unfold runF; rw [e], q⟩
/-! ### expressions -/
section
variable {f g : Cl} {ρ : En} {i j : Int} {p q r : PV}
theorem e_add (hf : f ρ = some (.int i)) (hg : g ρ = some (.int j)) : cBin .Add f g ρ = some (.int (i + j)) := by unfold cBin; (try dsimp only); rw [hf]; dsimp only [Option.bind]; rw [hg]; rfl
theorem e_sub (hf : f ρ = some (.int i)) (hg : g ρ = some (.int j)) : cBin .Sub f g ρ = some (.int (i - j)) := by unfold cBin; (try dsimp only); rw [hf]; dsimp only [Option.bind]; rw [hg]; rfl
theorem e_mul (hf : f ρ = some (.int i)) (hg : g ρ = some (.int j)) (h : i.natAbs < 2 ^ 64 ∨ j.natAbs < 2 ^ 64) : cBin .Mult f g ρ = some (.int (i * j)) := by
  unfold cBin
  try dsimp only
  rw [hf]
  dsimp only [Option.bind]
  rw [hg]
  have hm : mulOk i j = true := by
    unfold mulOk
    rcases h with h | h
    · rw [decide_eq_true h]; rfl
    · rw [decide_eq_true h, Bool.or_true]
  dsimp only
  rw [show binV .Mult (.int i) (.int j) = if mulOk i j then some (.int (i * j)) else none from rfl, hm]
  rfl
theorem e_mod (hf : f ρ = some (.int i)) (hg : g ρ = some (.int j)) (h : 0 < j) : cBin .Mod f g ρ = some (.int (i % j)) := by
  unfold cBin
  try dsimp only
  rw [hf]
  dsimp only [Option.bind]
  rw [hg]
  dsimp only
  rw [show binV .Mod (.int i) (.int j) = if decide (j ≠ 0) then some (.int (i.fmod j)) else none from rfl, decide_eq_true (by omega : j ≠ 0), if_pos rfl, Int.fmod_eq_emod_of_nonneg _ (by omega)]
theorem e_fdivW (hf : f ρ = some (.int i)) (hg : g ρ = some (.int j)) (h : 0 < j) (h2 : j.natAbs.log2 < 9000) : cBin .FloorDiv f g ρ = some (.int (i / j)) := by
  unfold cBin
  try dsimp only
  rw [hf]
  dsimp only [Option.bind]
  rw [hg]
  dsimp only
  rw [show binV .FloorDiv (.int i) (.int j) = if decide (j ≠ 0) && decide (j.natAbs.log2 < 9000) then some (.int (i.fdiv j)) else none from rfl, decide_eq_true (by omega : j ≠ 0), decide_eq_true h2, Int.fdiv_eq_ediv_of_nonneg _ (by omega)]
  rfl
theorem e_fdiv (hf : f ρ = some (.int i)) (hg : g ρ = some (.int j)) (h : 0 < j) (h2 : j < 1073741824) : cBin .FloorDiv f g ρ = some (.int (i / j)) := by
  refine e_fdivW hf hg h ?_
  have h3 : j.natAbs < 2 ^ 30 := by omega
  have := (Nat.log2_lt (by omega)).mpr h3
  omega
theorem e_int (hf : f ρ = some (.int i)) : cApp (g1 intV) [f] ρ = some (.int i) := by unfold cApp; (try dsimp only [evs]); rw [hf]; rfl
theorem e_app1 {h : List PV → Option PV} (hf : f ρ = some p) (hr : h [p] = some r) : cApp h [f] ρ = some r := by unfold cApp; (try dsimp only [evs]); rw [hf]; exact hr
theorem e_app2 {h : List PV → Option PV} (hf : f ρ = some p) (hg : g ρ = some q) (hr : h [p, q] = some r) : cApp h [f, g] ρ = some r := by
  unfold cApp
  try dsimp only
  rw [show evs [f, g] ρ = some [p, q] by simp only [evs, hf, hg, Option.bind_some, Option.map_some]]
  exact hr
theorem e_ix (hf : f ρ = some p) (hg : g ρ = some (.int i)) (hr : ixV p (.int i) = some r) : cIx f g ρ = some r := by unfold cIx; (try dsimp only); rw [hf]; dsimp only [Option.bind]; rw [hg]; exact hr
theorem e_bin {op : Operator} (hf : f ρ = some p) (hg : g ρ = some q) (hr : binV op p q = some r) : cBin op f g ρ = some r := by unfold cBin; (try dsimp only); rw [hf]; dsimp only [Option.bind]; rw [hg]; exact hr
theorem q_cmp {op : CmpOp} {b : Bool} (hf : f ρ = some p) (hg : g ρ = some q) (hr : cmpV op p q = some b) : cCmpT op f g ρ = some b := by unfold cCmpT; (try dsimp only); rw [hf]; dsimp only [Option.bind]; rw [hg]; exact hr
theorem e_cmp {op : CmpOp} {b : Bool} (hf : f ρ = some p) (hg : g ρ = some q) (hr : cmpV op p q = some b) : cCmp op f g ρ = some (.bl b) := by unfold cCmp; (try dsimp only); rw [hf]; dsimp only [Option.bind]; rw [hg]; dsimp only; rw [hr]; rfl
theorem q_and {s t : Ct} {b b' : Bool} (h1 : s ρ = some b) (h2 : b = true → t ρ = some b') : cAndT s t ρ = some (b && b') := by
  unfold cAndT
  try dsimp only
  rw [h1]
  cases b with
  | false => rfl
  | true => exact h2 rfl
theorem q_or {s t : Ct} {b b' : Bool} (h1 : s ρ = some b) (h2 : b = false → t ρ = some b') : cOrT s t ρ = some (b || b') := by
  unfold cOrT
  try dsimp only
  rw [h1]
  cases b with
  | true => rfl
  | false => exact h2 rfl
theorem q_not {t : Ct} {b : Bool} (h : t ρ = some b) : cNotT t ρ = some (!b) := by unfold cNotT; (try dsimp only); rw [h]; rfl
theorem q_tst {b : Bool} (h : f ρ = some p) (ht : truV p = some b) : cTst f ρ = some b := by unfold cTst; (try dsimp only); rw [h]; exact ht
theorem q_lt (hf : f ρ = some (.int i)) (hg : g ρ = some (.int j)) : cCmpT .Lt f g ρ = some (decide (i < j)) := q_cmp hf hg rfl
theorem q_gt (hf : f ρ = some (.int i)) (hg : g ρ = some (.int j)) : cCmpT .Gt f g ρ = some (decide (j < i)) := q_cmp hf hg rfl
theorem q_le (hf : f ρ = some (.int i)) (hg : g ρ = some (.int j)) : cCmpT .LtE f g ρ = some (decide (i ≤ j)) := q_cmp hf hg rfl
theorem q_ge (hf : f ρ = some (.int i)) (hg : g ρ = some (.int j)) : cCmpT .GtE f g ρ = some (decide (j ≤ i)) := q_cmp hf hg rfl
theorem q_eq (hf : f ρ = some (.int i)) (hg : g ρ = some (.int j)) : cCmpT .Eq f g ρ = some (decide (i = j)) := q_cmp hf hg rfl
theorem q_ne (hf : f ρ = some (.int i)) (hg : g ρ = some (.int j)) : cCmpT .NotEq f g ρ = some (!decide (i = j)) := q_cmp hf hg rfl
theorem q_truI (hf : f ρ = some (.int i)) : cTst f ρ = some (i != 0) := q_tst hf rfl
theorem q_truB {b : Bool} (hf : f ρ = some (.bl b)) : cTst f ρ = some b := q_tst hf rfl
theorem e_len {n : Int} (hf : f ρ = some p) (h : lenV p = some n) : cApp (g1 fun p => Option.map PV.int (lenV p)) [f] ρ = some (.int n) := e_app1 hf (by show (lenV p).map PV.int = _; rw [h]; rfl)
theorem it_rg1 {n : Int} (hf : f ρ = some (.int n)) (h : n < 2 ^ 62) (h0 : -(2 ^ 62) ≤ n) : itRg [f] ρ = some (rgP 0 n) := by
  unfold itRg
  try dsimp only [evs]
  rw [hf]
  dsimp only [Option.bind, Option.map, evs, rgL]
  unfold rgOk2
  rw [decide_eq_true h, decide_eq_true h0]
  rfl
theorem it_rg2 {a b : Int} (hf : f ρ = some (.int a)) (hg : g ρ = some (.int b)) (h1 : -(2 ^ 62) ≤ a) (h2 : a < 2 ^ 62) (h3 : -(2 ^ 62) ≤ b) (h4 : b < 2 ^ 62) : itRg [f, g] ρ = some (rgP a b) := by
  unfold itRg
  try dsimp only
  rw [show evs [f, g] ρ = some [.int a, .int b] by simp only [evs, hf, hg, Option.bind_some, Option.map_some]]
  dsimp only [Option.bind, rgL]
  unfold rgOk2
  rw [decide_eq_true h1, decide_eq_true h2, decide_eq_true h3, decide_eq_true h4]
  rfl
end
theorem rgP_len (a b : Int) : (rgP a b).length = (b - a).toNat := by unfold rgP; rw [List.length_map, List.length_range]
theorem rgP_get {a b : Int} {i : Nat} {p : PV} (h : (rgP a b)[i]? = some p) : p = .int (a + i) ∧ (i : Int) < b - a := by
  unfold rgP at h
  rw [List.getElem?_map] at h
  by_cases hi : i < (b - a).toNat
  · rw [List.getElem?_range hi] at h
    cases h
    exact ⟨rfl, by omega⟩
  · rw [List.getElem?_eq_none (by rw [List.length_range]; omega)] at h
    cases h
theorem atI_in {α : Type} {l : List α} {i : Int} (h0 : 0 ≤ i) (h : i < l.length) : atI l i = some (l[i.toNat]'(by omega)) := by
  have e : ((i.toNat : Nat) : Int) = i := by omega
  have h2 := atI_nat (xs := l) (j := i.toNat) (v := l[i.toNat]'(by omega)) (List.getElem?_eq_getElem (by omega))
  rw [e] at h2
  exact h2
theorem int_get {ns : List Int} {i : Nat} {p : PV} (h : (ns.map PV.int)[i]? = some p) : ∃ x, p = .int x ∧ ns[i]? = some x := by
  rw [List.getElem?_map] at h
  cases e : ns[i]? with
  | none => rw [e] at h; cases h
  | some x => rw [e] at h; cases h; exact ⟨x, rfl, rfl⟩
end Pi

/-! Pi 16: the helpers that every law has. -/
namespace Pi
open PySem PySem.Spec PyProof.Rows L2
local macro_rules | `(tactic| trivial) => `(tactic| first
  | (with_reducible refine e_add ?_ ?_) <;> trivial
  | (with_reducible refine e_sub ?_ ?_) <;> trivial
  | (with_reducible refine e_mul ?_ ?_ ?_) <;> trivial
  | (with_reducible refine e_mod ?_ ?_ ?_) <;> trivial
  | (with_reducible refine e_fdiv ?_ ?_ ?_ ?_) <;> trivial
  | (with_reducible refine e_int ?_) <;> trivial
  | (with_reducible refine q_lt ?_ ?_) <;> trivial
  | (with_reducible refine q_gt ?_ ?_) <;> trivial
  | (with_reducible refine q_le ?_ ?_) <;> trivial
  | (with_reducible refine q_ge ?_ ?_) <;> trivial
  | (with_reducible refine q_eq ?_ ?_) <;> trivial
  | (with_reducible refine q_ne ?_ ?_) <;> trivial
  | (with_reducible refine e_len ?_ ?_) <;> trivial
  | rfl
  | omega)
def bMixed : Cst :=
  (cSeq (cAsgV 2 (cK (PV.int 0)))
    (cSeq
      (cIfS (cCmpT CmpOp.Gt (cApp (g1 fun p => Option.map PV.int (lenV p)) [cVarB 0]) (cK (PV.int 0)))
        (cAsgV 2
          (cIx (cVarB 0) (cBin Operator.Mod (cVarB 1) (cApp (g1 fun p => Option.map PV.int (lenV p)) [cVarB 0]))))
        cSkip)
      (cSeq
        (cAsgF 3
          (cBin Operator.Mod
            (cApp (g1 intV)
              [cBin Operator.Add
                  (cBin Operator.Add (cBin Operator.Mult (cVarB 2) (cK (PV.int 48271)))
                    (cBin Operator.Mult (cVarB 1) (cK (PV.int 69621))))
                  (cK (PV.int 8191))])
            (cK (PV.int 2147483647))))
        (cSeq
          (cAsgF 4
            (cBin Operator.Mod
              (cApp (g1 intV)
                [cBin Operator.Add
                    (cBin Operator.Add (cBin Operator.Mult (cVarB 3) (cVarB 3))
                      (cBin Operator.FloorDiv (cVarB 3) (cK (PV.int 7))))
                    (cBin Operator.Mult (cVarB 1) (cK (PV.int 16807)))])
              (cK (PV.int 2147483629))))
          (cSeq
            (cAsgF 5
              (cBin Operator.Mod
                (cApp (g1 intV)
                  [cBin Operator.Add
                      (cBin Operator.Add (cBin Operator.Mult (cVarB 4) (cVarB 4))
                        (cBin Operator.FloorDiv (cVarB 4) (cK (PV.int 11))))
                      (cK (PV.int 40692))])
                (cK (PV.int 2147483563))))
            (cRet (cBin Operator.Mod (cBin Operator.FloorDiv (cVarB 5) (cK (PV.int 5))) (cK (PV.int 1000003)))))))))
/-- a number below the mixing's bound -/
def RowN (p : PV) : Prop := ∃ r : Int, p = .int r ∧ 0 ≤ r ∧ r < 1000003
theorem mixed_tail {ns : List Int} {k c : Int} : Wp (cSeq
        (cAsgF 3
          (cBin Operator.Mod
            (cApp (g1 intV)
              [cBin Operator.Add
                  (cBin Operator.Add (cBin Operator.Mult (cVarB 2) (cK (PV.int 48271)))
                    (cBin Operator.Mult (cVarB 1) (cK (PV.int 69621))))
                  (cK (PV.int 8191))])
            (cK (PV.int 2147483647))))
        (cSeq
          (cAsgF 4
            (cBin Operator.Mod
              (cApp (g1 intV)
                [cBin Operator.Add
                    (cBin Operator.Add (cBin Operator.Mult (cVarB 3) (cVarB 3))
                      (cBin Operator.FloorDiv (cVarB 3) (cK (PV.int 7))))
                    (cBin Operator.Mult (cVarB 1) (cK (PV.int 16807)))])
              (cK (PV.int 2147483629))))
          (cSeq
            (cAsgF 5
              (cBin Operator.Mod
                (cApp (g1 intV)
                  [cBin Operator.Add
                      (cBin Operator.Add (cBin Operator.Mult (cVarB 4) (cVarB 4))
                        (cBin Operator.FloorDiv (cVarB 4) (cK (PV.int 11))))
                      (cK (PV.int 40692))])
                (cK (PV.int 2147483563))))
            (cRet (cBin Operator.Mod (cBin Operator.FloorDiv (cVarB 5) (cK (PV.int 5))) (cK (PV.int 1000003))))))) [.val (.scr (ns.map .int)), .val (.int k), .val (.int c), .un, .un, .un] fun _ fl => ∃ r, fl = .rt r ∧ RowN r := by
  refine wp_seq (wp_asgF (p := .int ((c * 48271 + k * 69621 + 8191) % 2147483647)) (by trivial) ?_)
  have b1 : (c * 48271 + k * 69621 + 8191) % 2147483647 < 2147483647 := Int.emod_lt_of_pos _ (by decide)
  have b0 : 0 ≤ (c * 48271 + k * 69621 + 8191) % 2147483647 := Int.emod_nonneg _ (by decide)
  generalize (c * 48271 + k * 69621 + 8191) % 2147483647 = x at b0 b1 ⊢
  dsimp only [List.set, PV.isCont]
  refine wp_seq (wp_asgF (p := .int ((x * x + x / 7 + k * 16807) % 2147483629)) (by trivial) ?_)
  have c1 : (x * x + x / 7 + k * 16807) % 2147483629 < 2147483629 := Int.emod_lt_of_pos _ (by decide)
  have c0 : 0 ≤ (x * x + x / 7 + k * 16807) % 2147483629 := Int.emod_nonneg _ (by decide)
  generalize (x * x + x / 7 + k * 16807) % 2147483629 = y at c0 c1 ⊢
  dsimp only [List.set, PV.isCont]
  refine wp_seq (wp_asgF (p := .int ((y * y + y / 11 + 40692) % 2147483563)) (by trivial) ?_)
  generalize (y * y + y / 11 + 40692) % 2147483563 = z
  dsimp only [List.set, PV.isCont]
  exact wp_ret (p := .int (z / 5 % 1000003)) (by trivial) ⟨_, rfl, _, rfl, Int.emod_nonneg _ (by decide), Int.emod_lt_of_pos _ (by decide)⟩
theorem mixed_ok (ns : List Int) (k : Int) : ∃ r, runF bMixed 6 [.scr (ns.map .int), .int k] = some r ∧ RowN r := by
  refine run_ex (wp_seq (wp_asgV rfl ?_))
  refine wp_seq (wp_ifD (q_gt (e_len rfl rfl) rfl) (fun h => ?_) (fun h => ?_))
  · rw [List.length_map] at h
    have hk0 : 0 ≤ k % (ns.length : Int) := Int.emod_nonneg _ (by omega)
    have hk1 : k % (ns.length : Int) < ns.length := Int.emod_lt_of_pos _ (by omega)
    have hi : ixV (.scr (ns.map PV.int)) (.int (k % (ns.length : Int))) = some (.int (ns[(k % (ns.length : Int)).toNat]'(by omega))) := by
      show atI _ _ = _
      rw [atI_in hk0 (by rw [List.length_map]; exact hk1), List.getElem_map]
    refine wp_asgV (e_ix rfl (e_mod rfl (e_len rfl (by show some ((ns.map PV.int).length : Int) = _; rw [List.length_map])) (by omega)) hi) mixed_tail
  · exact wp_skip mixed_tail

def bRow (g_law_mixed : List PV → Option PV) : Cst :=
    (cSeq (cAsgV 2 (cK (PV.int 0)))
      (cSeq
        (cIfS
          (cAndT (cCmpT CmpOp.Gt (cApp (g1 fun p => Option.map PV.int (lenV p)) [cVarB 0]) (cK (PV.int 0)))
            (cCmpT CmpOp.GtE (cIx (cVarB 0) (cK (PV.int 0))) (cBin Operator.Pow (cK (PV.int 10)) (cK (PV.int 18)))))
          (cAsgV 2 (cIx (cVarB 0) (cK (PV.int 0)))) cSkip)
        (cSeq (cAsgF 3 (cLst []))
          (cSeq
            (cForS (itRg [cVarB 1]) (gN 4)
              (cIfS (cCmpT CmpOp.Gt (cVarB 2) (cK (PV.int 0)))
                (cSeq (cAppend 3 (cBin Operator.Mod (cApp (g1 intV) [cVarB 2]) (cK (PV.int 1000))))
                  (cAsgF 2 (cBin Operator.FloorDiv (cVarB 2) (cK (PV.int 1000)))))
                (cAppend 3 (cApp g_law_mixed [cVar 0, cVar 4]))))
            (cRet (cVarB 3))))))
theorem row_ok {g : List PV → Option PV} (hg : ∀ (ns : List Int) (k : Int), ∃ r, g [.scr (ns.map .int), .int k] = some r ∧ RowN r) (ns : List Int) {many : Nat} (hm : many ≤ 1000) :
    ∃ r, runF (bRow g) 5 [.scr (ns.map .int), .int many] = some r ∧ ∃ l, r = .lst l ∧ l.length = many ∧ ∀ p ∈ l, RowN p := by
  refine run_ex (wp_seq (wp_asgV rfl ?_))
  have rest : ∀ big : Int, Wp (cSeq (cAsgF 3 (cLst []))
          (cSeq
            (cForS (itRg [cVarB 1]) (gN 4)
              (cIfS (cCmpT CmpOp.Gt (cVarB 2) (cK (PV.int 0)))
                (cSeq (cAppend 3 (cBin Operator.Mod (cApp (g1 intV) [cVarB 2]) (cK (PV.int 1000))))
                  (cAsgF 2 (cBin Operator.FloorDiv (cVarB 2) (cK (PV.int 1000)))))
                (cAppend 3 (cApp g [cVar 0, cVar 4]))))
            (cRet (cVarB 3)))) [.val (.scr (ns.map .int)), .val (.int many), .val (.int big), .un, .un] (fun _ fl => ∃ r, fl = .rt r ∧ ∃ l, r = .lst l ∧ l.length = many ∧ ∀ p ∈ l, RowN p) := fun big => by
    refine wp_seq (wp_asgF (p := .lst []) rfl ?_)
    refine wp_seq (wp_for (fun i ρ => ∃ (b : Int) (l : List PV) (x : Sl), ρ = [.val (.scr (ns.map .int)), .val (.int many), .val (.int b), .own (.lst l), x] ∧ l.length = i ∧ ∀ p ∈ l, RowN p) (it_rg1 rfl (by omega) (by omega))
      ⟨big, [], .un, rfl, rfl, by simp⟩ (fun i p ρ1 hp hi => ?_) (fun ρ1 hi => ?_))
    · obtain ⟨b, l, x, rfl, hl, hr⟩ := hi
      obtain ⟨rfl, hlt⟩ := rgP_get hp
      have hs : l.length < sizeLine := by show l.length < 2 ^ 24; omega
      refine ⟨_, rfl, wp_ifD (q_gt rfl rfl) (fun h => ?_) (fun h => ?_)⟩
      · refine wp_seq (wp_append (l := l) rfl (p := .int (b % 1000)) (by trivial) hs ?_)
        refine wp_asgF (p := .int (b / 1000)) (by trivial) ⟨_, _, _, rfl, by simp [hl], fun p hp => ?_⟩
        rcases List.mem_append.mp hp with hp | hp
        · exact hr p hp
        · rw [List.mem_singleton.mp hp]
          exact ⟨_, rfl, Int.emod_nonneg _ (by decide), by have := Int.emod_lt_of_pos b (show (0 : Int) < 1000 by decide); omega⟩
      · obtain ⟨r, e, hrr⟩ := hg ns (0 + (i : Int))
        refine wp_append (l := l) rfl (e_app2 rfl rfl e) hs ⟨_, _, _, rfl, by simp [hl], fun p hp => ?_⟩
        rcases List.mem_append.mp hp with hp | hp
        · exact hr p hp
        · rw [List.mem_singleton.mp hp]; exact hrr
    · obtain ⟨b, l, x, rfl, hl, hr⟩ := hi
      rw [rgP_len] at hl
      exact wp_ret rfl ⟨_, rfl, l, rfl, by omega, hr⟩
  refine wp_seq ?_
  cases ns with
  | nil => exact wp_ifF rfl (wp_skip (rest 0))
  | cons n ns =>
    have hi : ixV (.scr ((n :: ns).map PV.int)) (.int 0) = some (.int n) := by
      show atI _ _ = _
      exact atI_nat (j := 0) rfl
    refine wp_if (b := decide (10 ^ 18 ≤ n)) ?_ (fun h => wp_asgV (e_ix rfl rfl hi) (rest n)) (fun h => wp_skip (rest 0))
    have h1 : cCmpT CmpOp.Gt (cApp (g1 fun p => Option.map PV.int (lenV p)) [cVarB 0]) (cK (PV.int 0)) [.val (.scr ((n :: ns).map .int)), .val (.int many), .val (.int 0), .un, .un] = some (decide ((0 : Int) < ((n :: ns).map PV.int).length)) := q_gt (e_len rfl rfl) rfl
    have h2 := q_and (t := cCmpT CmpOp.GtE (cIx (cVarB 0) (cK (PV.int 0))) (cBin Operator.Pow (cK (PV.int 10)) (cK (PV.int 18)))) (b' := decide (10 ^ 18 ≤ n)) h1 fun _ => q_ge (e_ix rfl rfl hi) rfl
    rw [decide_eq_true (by simp only [List.length_map, List.length_cons]; omega), Bool.true_and] at h2
    exact h2
def bIsInt : Cst := (cRet (cAndV (cIsi Ty.int (cVarB 0)) (cNotV (cIsi Ty.bool (cVarB 0)))))
theorem isInt_ok (p : PV) : runF bIsInt 1 [p] = some (.bl (isiV .int p && !isiV .bool p)) := by cases p <;> rfl

/-- likeness, one level -/
def bLike (g_law_like g_law_is_int : List PV → Option PV) : Cst :=
    (cSeq (cIfS (cCmpT CmpOp.Is (cVarB 1) (cK PV.non)) (cRet (cCmp CmpOp.Is (cVarB 0) (cK PV.non))) cSkip)
      (cSeq
        (cIfS (cTst (cIsi Ty.bool (cVarB 1)))
          (cRet (cAndV (cIsi Ty.bool (cVarB 0)) (cCmp CmpOp.Eq (cVarB 0) (cVarB 1)))) cSkip)
        (cSeq
          (cIfS (cTst (cIsi Ty.tuple (cVarB 1)))
            (cSeq
              (cIfS
                (cOrT (cNotT (cTst (cIsi Ty.tuple (cVarB 0))))
                  (cCmpT CmpOp.NotEq (cApp (g1 fun p => Option.map PV.int (lenV p)) [cVarB 0])
                    (cApp (g1 fun p => Option.map PV.int (lenV p)) [cVarB 1])))
                (cRet (cK (PV.bl false))) cSkip)
              (cRet
                (cApp (g1 allV)
                  [cComp [2] (gN 2)
                      (itRg [cApp (g1 fun p => Option.map PV.int (lenV p)) [cVarB 1]]) cYes
                      (cApp g_law_like [cIx (cVarB 0) (cVarB 2), cIx (cVarB 1) (cVarB 2)])])))
            cSkip)
          (cSeq
            (cIfS (cTst (cIsi Ty.str (cVarB 1)))
              (cRet (cAndV (cIsi Ty.str (cVarB 0)) (cCmp CmpOp.Eq (cVarB 0) (cVarB 1)))) cSkip)
            (cRet (cAndV (cApp g_law_is_int [cVar 0]) (cCmp CmpOp.Eq (cVarB 0) (cVarB 1))))))))
/-- plain values, d deep at most -/
def plainD : Nat → PV → Bool
  | _, .non => true
  | _, .bl _ => true
  | _, .int _ => true
  | _, .str _ => true
  | d + 1, .tup l => decide (l.length ≤ sizeLine) && l.all (plainD d)
  | _, _ => false
def gLike : Nat → List PV → Option PV
  | 0, _ => none
  | d + 1, [p, q] => runF (bLike (gLike d) fun ps => match ps with
    | [p] => runF bIsInt 1 [p]
    | _ => none) 3 [p, q]
  | _, _ => none
theorem cLoop_all {g : Tg} {t : Ct} {f : Cl} {ρ : En} {r : PV} : ∀ {items : List PV}, (∀ p ∈ items, ∃ ρ1, g p ρ = some ρ1 ∧ t ρ1 = some true ∧ f ρ1 = some r) → cLoop g t f ρ items = some (List.replicate items.length r)
  | [], _ => rfl
  | p :: l, h => by
    obtain ⟨ρ1, h1, h2, h3⟩ := h p List.mem_cons_self
    unfold cLoop
    rw [h1]
    dsimp only [Option.bind]
    rw [h2]
    dsimp only
    rw [if_pos rfl, h3, cLoop_all fun q hq => h q (List.mem_cons_of_mem _ hq)]
    rfl
theorem cLoop_map {g : Tg} {f : Cl} {ρ : En} {F : Nat → PV → PV} : ∀ {items : List PV}, (∀ (i : Nat) (p : PV), items[i]? = some p → ∃ ρ1, g p ρ = some ρ1 ∧ f ρ1 = some (F i p)) → cLoop g cYes f ρ items = some (items.mapIdx F)
  | [], _ => rfl
  | p :: l, h => by
    obtain ⟨ρ1, h1, h3⟩ := h 0 p rfl
    unfold cLoop
    rw [h1]
    dsimp only [Option.bind, cYes]
    rw [if_pos rfl, h3, cLoop_map (F := fun i => F (i + 1)) fun i q hq => h (i + 1) q hq, List.mapIdx_cons]
    rfl
theorem blsOf_all : ∀ n : Nat, blsOf (List.replicate n (.bl true)) = some (List.replicate n true)
  | 0 => rfl
  | n + 1 => by rw [List.replicate_succ, blsOf, blsOf_all n]; rfl
theorem allV_rep (n : Nat) : g1 allV [.lst (List.replicate n (.bl true))] = some (.bl true) := by
  have h : (List.replicate n true).all id = true := by
    rw [List.all_eq_true]
    intro x hx
    rw [(List.mem_replicate.mp hx).2]
    rfl
  have e : g1 allV [.lst (List.replicate n (.bl true))] = (blsOf (List.replicate n (.bl true))).map fun bs => PV.bl (bs.all id) := rfl
  rw [e, blsOf_all, Option.map_some, h]
theorem like_same : ∀ (d : Nat) (p : PV), plainD d p = true → gLike (d + 1) [p, p] = some (.bl true) := by
  intro d
  induction d with
  | zero =>
    intro p h
    cases p <;> first | rfl | (cases h; done) | skip
    · rename_i b
      cases b <;> rfl
    · rename_i i
      show runF (bLike _ _) 3 [_, _] = _
      refine run_of ?_
      refine wp_nx rfl (wp_nx rfl (wp_nx rfl (wp_nx rfl (wp_ret (p := .bl (decide (i = i))) rfl (.inl (by rw [decide_eq_true rfl]))))))
    · rename_i x
      show runF (bLike _ _) 3 [_, _] = _
      refine run_of ?_
      refine wp_nx rfl (wp_nx rfl (wp_nx rfl (wp_rt (p := .bl (decide (x = x))) rfl (.inl (by rw [decide_eq_true rfl])))))
  | succ d ih =>
    intro p h
    cases p <;> first | rfl | (cases h; done) | skip
    · rename_i b
      cases b <;> rfl
    · rename_i i
      show runF (bLike _ _) 3 [_, _] = _
      refine run_of ?_
      refine wp_nx rfl (wp_nx rfl (wp_nx rfl (wp_nx rfl (wp_ret (p := .bl (decide (i = i))) rfl (.inl (by rw [decide_eq_true rfl]))))))
    · rename_i x
      show runF (bLike _ _) 3 [_, _] = _
      refine run_of ?_
      refine wp_nx rfl (wp_nx rfl (wp_nx rfl (wp_rt (p := .bl (decide (x = x))) rfl (.inl (by rw [decide_eq_true rfl])))))
    · rename_i l
      simp only [plainD, Bool.and_eq_true, decide_eq_true_eq, List.all_eq_true] at h
      have hlen : (l.length : Int) < 2 ^ 62 := by
        have := h.1
        have e : sizeLine = 2 ^ 24 := rfl
        omega
      show runF (bLike _ _) 3 [_, _] = _
      refine run_of ?_
      refine wp_nx rfl (wp_nx rfl (wp_seq (wp_ifT rfl (wp_nx (ρ1 := [.val (.tup l), .val (.tup l), .un]) ?_ (wp_ret (p := .bl true) ?_ (.inl rfl))))))
      · have e1 : cOrT (cNotT (cTst (cIsi Ty.tuple (cVarB 0)))) (cCmpT CmpOp.NotEq (cApp (g1 fun p => Option.map PV.int (lenV p)) [cVarB 0]) (cApp (g1 fun p => Option.map PV.int (lenV p)) [cVarB 1])) [.val (.tup l), .val (.tup l), .un] = some (false || !decide ((l.length : Int) = l.length)) := q_or rfl fun _ => q_ne (e_len rfl rfl) (e_len rfl rfl)
        rw [decide_eq_true rfl] at e1
        unfold cIfS
        show (cOrT _ _ [.val (.tup l), .val (.tup l), .un]).bind _ = _
        rw [e1]
        rfl
      · have it : itRg [cApp (g1 fun p => Option.map PV.int (lenV p)) [cVarB 1]] [.val (.tup l), .val (.tup l), .un] = some (rgP 0 l.length) := it_rg1 (e_len rfl rfl) hlen (by omega)
        refine e_app1 (p := .lst (List.replicate l.length (.bl true))) ?_ ?_
        · unfold cComp
          show (itRg _ [.val (.tup l), .val (.tup l), .un]).bind _ = _
          rw [it]
          dsimp only [Option.bind]
          have hlp : cLoop (gN 2) cYes (cApp (gLike (d + 1)) [cIx (cVarB 0) (cVarB 2), cIx (cVarB 1) (cVarB 2)]) (wipeE [.val (.tup l), .val (.tup l), .un] [2]) (rgP 0 l.length) = some (List.replicate (rgP 0 l.length).length (.bl true)) := cLoop_all fun p hp => by
            obtain ⟨i, hi, e⟩ := List.getElem_of_mem hp
            obtain ⟨rfl, hlt⟩ := rgP_get (p := p) (i := i) (a := 0) (b := l.length) (by rw [← e]; exact List.getElem?_eq_getElem hi)
            have hil : i < l.length := by omega
            have ix : ixV (.tup l) (.int (0 + (i : Int))) = some (l[i]'hil) := by
              show atI _ _ = _
              rw [Int.zero_add]
              exact atI_nat (List.getElem?_eq_getElem hil)
            exact ⟨_, rfl, rfl, e_app2 (e_ix rfl rfl ix) (e_ix rfl rfl ix) (ih _ (h.2 _ (List.getElem_mem hil)))⟩
          rw [rgP_len, show ((l.length : Int) - 0).toNat = l.length by omega] at hlp
          rw [hlp]
          dsimp only
          rw [List.length_replicate, show seqOk l.length = true from decide_eq_true h.1, if_pos rfl]
        · exact allV_rep _
theorem plain_ints (ns : List Int) (h : ns.length ≤ sizeLine) : plainD 1 (.tup (ns.map .int)) = true := by
  simp only [plainD, Bool.and_eq_true, decide_eq_true_eq, List.all_eq_true, List.length_map]
  exact ⟨h, fun p hp => by obtain ⟨n, _, rfl⟩ := List.mem_map.mp hp; rfl⟩
end Pi

/-! Pi 17: lists of ints on paper: slices, sums, order, comprehensions. -/
namespace Pi
open PySem PySem.Spec PyProof.Rows L2
section
variable {f g h : Cl} {ρ : En} {i j : Int} {p q r : PV} {l m : List PV} {Q : En → Fl → Prop}
/-! ### slices -/
theorem cut_from (l : List PV) {i : Int} (h0 : 0 ≤ i) : cutP l (some i) none = l.drop i.toNat := by
  have e : HT.sIx l.length 0 (some i) = min i.toNat l.length := by
    show (if i < 0 then _ else _) = _
    rw [if_neg (by omega)]
  unfold cutP
  rw [e, HT.sIx_none, List.take_of_length_le (by rw [List.length_drop]; exact Nat.le_refl _)]
  by_cases hl : i.toNat ≤ l.length
  · rw [Nat.min_eq_left hl]
  · rw [Nat.min_eq_right (by omega), List.drop_length, List.drop_eq_nil_of_le (by omega)]
theorem cut_to (l : List PV) {i : Int} (h0 : 0 ≤ i) : cutP l none (some i) = l.take i.toNat := by
  have e : HT.sIx l.length l.length (some i) = min i.toNat l.length := by
    show (if i < 0 then _ else _) = _
    rw [if_neg (by omega)]
  unfold cutP
  rw [e, HT.sIx_none, List.drop_zero, Nat.sub_zero]
  by_cases hl : i.toNat ≤ l.length
  · rw [Nat.min_eq_left hl]
  · rw [Nat.min_eq_right (by omega), List.take_length, List.take_of_length_le (by omega)]
theorem e_slF (hf : f ρ = some (.tup l)) (hg : g ρ = some (.int i)) (h0 : 0 ≤ i) : cSl f (some g) none ρ = some (.tup (l.drop i.toNat)) := by
  simp only [cSl, evO, hf, hg, Option.bind_some, slV, cut_from l h0]
theorem e_slFl (hf : f ρ = some (.lst l)) (hg : g ρ = some (.int i)) (h0 : 0 ≤ i) : cSl f (some g) none ρ = some (.lst (l.drop i.toNat)) := by
  simp only [cSl, evO, hf, hg, Option.bind_some, slV, cut_from l h0]
theorem e_slT (hf : f ρ = some (.tup l)) (hg : g ρ = some (.int i)) (h0 : 0 ≤ i) : cSl f none (some g) ρ = some (.tup (l.take i.toNat)) := by
  simp only [cSl, evO, hf, hg, Option.bind_some, slV, cut_to l h0]
theorem e_slTl (hf : f ρ = some (.lst l)) (hg : g ρ = some (.int i)) (h0 : 0 ≤ i) : cSl f none (some g) ρ = some (.lst (l.take i.toNat)) := by
  simp only [cSl, evO, hf, hg, Option.bind_some, slV, cut_to l h0]
theorem e_cat (hf : f ρ = some (.tup l)) (hg : g ρ = some (.tup m)) (hs : l.length + m.length ≤ sizeLine) : cBin .Add f g ρ = some (.tup (l ++ m)) := by
  refine e_bin hf hg ?_
  show (if seqOk (l.length + m.length) then some (PV.tup (l ++ m)) else none) = _
  rw [show seqOk (l.length + m.length) = true from decide_eq_true hs, if_pos rfl]
theorem e_catl (hf : f ρ = some (.lst l)) (hg : g ρ = some (.lst m)) (hs : l.length + m.length ≤ sizeLine) : cBin .Add f g ρ = some (.lst (l ++ m)) := by
  refine e_bin hf hg ?_
  show (if seqOk (l.length + m.length) then some (PV.lst (l ++ m)) else none) = _
  rw [show seqOk (l.length + m.length) = true from decide_eq_true hs, if_pos rfl]
theorem e_lstRg1 {n : Int} (hf : f ρ = some (.int n)) (h0 : -(2 ^ 62) ≤ n) (h1 : n ≤ 2 ^ 24) : cLstRg [f] ρ = some (.lst (rgP 0 n)) := by
  have e : rgOk 0 n = true := by
    unfold rgOk
    rw [decide_eq_true h0, decide_eq_true (by omega : n < 2 ^ 62), decide_eq_true (by omega : (n - 0).toNat ≤ 2 ^ 24)]
    rfl
  simp only [cLstRg, evs, hf, Option.bind_some, Option.map_some, rgL]
  rw [e, if_pos rfl]
/-! ### rows and in-place sums -/
theorem wp_row {is : List Nat} {bs : List Bool} {fs : List Cl} {ps : List PV} (e : evs fs ρ = some ps) (h1 : ps.length ≤ sizeLine) (h2 : is.length = ps.length) (w : Q (setRow is bs ps ρ) .nx) : Wp (cRow is bs fs) ρ Q := ⟨_, .nx, by
  simp only [cRow, e, Option.bind_some]
  rw [show seqOk ps.length = true from decide_eq_true h1, decide_eq_true h2]
  rfl, w⟩
theorem wp_aug {i : Nat} {op : Operator} (hi : ρ[i]? = some (.val p)) (e : f ρ = some q) (e2 : iopV op p q = some r) (w : Q (ρ.set i (.val r)) .nx) : Wp (cAug i op f) ρ Q := ⟨_, .nx, by
  simp only [cAug, hi, e, Option.bind_some, e2, Option.map_some], w⟩
theorem wp_tg {t : Tg} {ρ' : En} (e : f ρ = some p) (e2 : t p ρ = some ρ') (w : Q ρ' .nx) : Wp (cTgA t f) ρ Q := ⟨_, .nx, by
  simp only [cTgA, e, Option.bind_some, e2, Option.map_some], w⟩
theorem it_tup (hf : f ρ = some (.tup l)) : itOf f ρ = some l := by simp only [itOf, hf, Option.bind_some, itemsOf]
theorem it_lst (hf : f ρ = some (.lst l)) : itOf f ρ = some l := by simp only [itOf, hf, Option.bind_some, itemsOf]
/-! ### comprehensions -/
theorem cLoop_mapP {g : Tg} {f : Cl} {ρ : En} {F : PV → PV} : ∀ {items : List PV}, (∀ p ∈ items, ∃ ρ1, g p ρ = some ρ1 ∧ f ρ1 = some (F p)) → cLoop g cYes f ρ items = some (items.map F)
  | [], _ => rfl
  | p :: l, h => by
    obtain ⟨ρ1, h1, h3⟩ := h p List.mem_cons_self
    unfold cLoop
    rw [h1]
    dsimp only [Option.bind, cYes]
    rw [if_pos rfl, h3, cLoop_mapP fun q hq => h q (List.mem_cons_of_mem _ hq)]
    rfl
/-- a comprehension with no test -/
theorem e_comp {vs : List Nat} {g : Tg} {it : Ci} {f : Cl} {items : List PV} (F : PV → PV) (hi : it ρ = some items) (hf : ∀ p ∈ items, ∃ ρ1, g p (wipeE ρ vs) = some ρ1 ∧ f ρ1 = some (F p)) (hl : items.length ≤ sizeLine) : cComp vs g it cYes f ρ = some (.lst (items.map F)) := by
  simp only [cComp, hi, Option.bind_some, cLoop_mapP hf]
  rw [List.length_map, show seqOk items.length = true from decide_eq_true hl, if_pos rfl]
/-- over ints, of ints -/
theorem e_compI {vs : List Nat} {g : Tg} {it : Ci} {f : Cl} {ns : List Int} (F : Int → Int) (hi : it ρ = some (ns.map .int)) (hf : ∀ x ∈ ns, ∃ ρ1, g (.int x) (wipeE ρ vs) = some ρ1 ∧ f ρ1 = some (.int (F x))) (hl : ns.length ≤ sizeLine) : cComp vs g it cYes f ρ = some (.lst ((ns.map F).map .int)) := by
  have e := e_comp (vs := vs) (g := g) (it := it) (f := f) (fun p => match p with
    | .int x => .int (F x)
    | p => p) hi (fun p hp => by
      obtain ⟨x, hx, rfl⟩ := List.mem_map.mp hp
      exact hf x hx) (by rw [List.length_map]; exact hl)
  rw [e, List.map_map, List.map_map]
  rfl
theorem cLoop_allB {g : Tg} {f : Cl} {ρ : En} {r : PV} {items : List PV} (h : ∀ p ∈ items, ∃ ρ1, g p ρ = some ρ1 ∧ f ρ1 = some r) : cLoop g cYes f ρ items = some (List.replicate items.length r) := cLoop_all fun p hp => by
  obtain ⟨ρ1, h1, h2⟩ := h p hp
  exact ⟨ρ1, h1, rfl, h2⟩
/-- all([.. for ..]) where each holds -/
theorem e_allC {vs : List Nat} {g : Tg} {it : Ci} {f : Cl} {items : List PV} (hi : it ρ = some items) (hf : ∀ p ∈ items, ∃ ρ1, g p (wipeE ρ vs) = some ρ1 ∧ f ρ1 = some (.bl true)) (hl : items.length ≤ sizeLine) : cApp (g1 allV) [cComp vs g it cYes f] ρ = some (.bl true) := by
  refine e_app1 (p := .lst (List.replicate items.length (.bl true))) ?_ (allV_rep _)
  simp only [cComp, hi, Option.bind_some, cLoop_allB hf]
  rw [List.length_replicate, show seqOk items.length = true from decide_eq_true hl, if_pos rfl]
end
/-! ### ints as data -/
theorem toDs_ints : ∀ ns : List Int, toDs (ns.map PV.int) = ns.map PyData.int
  | [] => rfl
  | n :: ns => by rw [List.map_cons, toDs, toDs_ints ns]; rfl
theorem lay_ints : ∀ ns : List Int, PyData.canLayAll0 (ns.map PyData.int) = true
  | [] => by simp [PyData.canLayAll0]
  | n :: ns => by rw [List.map_cons, PyData.canLayAll0, lay_ints ns]; rfl
theorem depth_ints : ∀ ns : List Int, PyData.depthAll (ns.map PyData.int) = 0
  | [] => by simp [PyData.depthAll]
  | n :: ns => by rw [List.map_cons, PyData.depthAll, depth_ints ns]; rfl
theorem shaped_lst (ns : List Int) : shapedP (.lst (ns.map .int)) = true := by
  unfold shapedP SeqAt.shaped
  rw [PV.toD, toDs_ints, PyData.canLay0, lay_ints, PyData.depth, depth_ints]
  rfl
theorem shaped_tup (ns : List Int) : shapedP (.tup (ns.map .int)) = true := by
  unfold shapedP SeqAt.shaped
  rw [PV.toD, toDs_ints, PyData.canLay0, lay_ints, PyData.depth, depth_ints]
  rfl
theorem pvEq_same {p : PV} (h : shapedP p = true) : pvEq p p = some true := by
  have hl := SeqAt.eqv_refl p.toD (shaped_lay h)
  cases p <;> first | (simp only [pvEq, decide_true]; done) | (show (if shapedP _ && shapedP _ then some (PyData.eqv _ _) else none) = _; rw [h, hl]; rfl) | exact absurd (shaped_lay h) (by simp [PV.toD, PyData.canLay0])
theorem sortOk_ints (ns : List Int) : sortOk (ns.map .int) = true := by
  unfold sortOk
  rw [toDs_ints, lay_ints, depth_ints]
  simp only [Bool.and_eq_true, Bool.or_eq_true, List.all_eq_true]
  refine ⟨⟨⟨trivial, by decide⟩, fun a ha b hb => ?_⟩, .inr fun a ha => ?_⟩
  · obtain ⟨x, _, rfl⟩ := List.mem_map.mp ha
    obtain ⟨y, _, rfl⟩ := List.mem_map.mp hb
    rfl
  · obtain ⟨x, _, rfl⟩ := List.mem_map.mp ha
    rfl
def isI (ns : List Int) : List Int := ns.mergeSort fun a b => decide (a ≤ b)
theorem sortP_ints (ns : List Int) : sortP (ns.map .int) = (isI ns).map .int := by
  unfold sortP isI
  refine (List.map_mergeSort (f := PV.int) fun a _ b _ => ?_).symm
  have e := congrFun (congrFun (PySem.W.dataLe_int (fun b : Int => b)) a) b
  exact e.symm
theorem isI_pw (ns : List Int) : (isI ns).Pairwise (· ≤ ·) := by
  have h := List.pairwise_mergeSort (le := fun a b : Int => decide (a ≤ b)) (by intro a b c h1 h2; simp only [decide_eq_true_eq] at *; omega) (by intro a b; simp only [Bool.or_eq_true, decide_eq_true_eq]; omega) ns
  exact h.imp fun h => of_decide_eq_true h
theorem isI_perm (ns : List Int) : (isI ns).Perm ns := List.mergeSort_perm ns _
/-- one that rises and has the same items is the sorted one -/
theorem isI_eq {ns ms : List Int} (hp : ms.Perm ns) (hs : ms.Pairwise (· ≤ ·)) : isI ns = ms := by
  refine List.Perm.eq_of_pairwise (le := fun a b => a ≤ b) ?_ (isI_pw ns) hs ((isI_perm ns).trans hp.symm)
  intro a b _ _ h1 h2
  omega
theorem e_sorted {f : Cl} {ρ : En} {ns : List Int} {p : PV} (hf : f ρ = some p) (hp : p = .tup (ns.map .int) ∨ p = .lst (ns.map .int)) : cApp (g1 sortedV) [f] ρ = some (.lst ((isI ns).map .int)) := by
  refine e_app1 hf ?_
  have e : seqOf p = some (ns.map .int) := by rcases hp with rfl | rfl <;> rfl
  show (seqOf p).bind _ = _
  rw [e, Option.bind_some, if_pos (sortOk_ints ns), sortP_ints]
theorem e_sum {f : Cl} {ρ : En} {ns : List Int} {p : PV} (hf : f ρ = some p) (hp : p = .tup (ns.map .int) ∨ p = .lst (ns.map .int)) : cApp (g1 sumV) [f] ρ = some (.int ns.sum) := by
  refine e_app1 hf ?_
  have e : seqOf p = some (ns.map .int) := by rcases hp with rfl | rfl <;> rfl
  show (seqOf p).bind _ = _
  rw [e, Option.bind_some, intsOf_ints]
  rfl
/-- the numbers from 0 -/
def upTo (n : Nat) : List Int := (List.range n).map fun i : Nat => ((i : Nat) : Int)
theorem rgP_up (n : Nat) : rgP 0 n = (upTo n).map .int := by
  unfold rgP upTo
  rw [List.map_map]
  have e : ((n : Int) - 0).toNat = n := by omega
  rw [e]
  refine List.map_congr_left fun i _ => ?_
  show PV.int (0 + (i : Int)) = .int i
  rw [Int.zero_add]
theorem upTo_len (n : Nat) : (upTo n).length = n := by unfold upTo; rw [List.length_map, List.length_range]
theorem upTo_get {n i : Nat} (h : i < n) : (upTo n)[i]? = some (i : Int) := by
  unfold upTo
  rw [List.getElem?_map, List.getElem?_range h]
  rfl
theorem upTo_mem {n : Nat} {x : Int} : x ∈ upTo n ↔ 0 ≤ x ∧ x < n := by
  unfold upTo
  rw [List.mem_map]
  constructor
  · rintro ⟨i, hi, rfl⟩
    have := List.mem_range.mp hi
    omega
  · rintro ⟨h0, h1⟩
    exact ⟨x.toNat, List.mem_range.mpr (by omega), by omega⟩
theorem upTo_pw (n : Nat) : (upTo n).Pairwise (· < ·) := by
  unfold upTo
  rw [List.pairwise_map]
  exact List.pairwise_lt_range.imp fun h => by omega
theorem upTo_succ (n : Nat) : upTo (n + 1) = upTo n ++ [(n : Int)] := by
  unfold upTo
  rw [List.range_succ, List.map_append]
  rfl
end Pi

/-! Pi 18: defs in their chain. -/
namespace Pi
open PySem PySem.Spec PyProof.Rows L2
def fRun (m n : Nat) (body : Cst) : List PV → Option PV := fun ps => if ps.length = m then runF body n ps else none
theorem fRun_eq {m n : Nat} {body : Cst} {ps : List PV} (h : ps.length = m) : fRun m n body ps = runF body n ps := if_pos h
theorem fRun_hg {m n : Nat} {body : Cst} {ps : List PV} {r : PV} (h : fRun m n body ps = some r) : ps.length = m ∧ runF body n ps = some r := by
  unfold fRun at h
  split at h
  · rename_i hm
    exact ⟨hm, h⟩
  · cases h
section
variable {P : Program} {w : World} {K : PySem.W.Frag} {mg : Str → Option Value} {base h : Heap}
theorem df_mk {x : Str} {st : Stmt} {pn : List Str} {f : Addr} {oc : Value} {od an : Option Addr} {osl : Array (Option Value)} {kV doc pm cdv ct : Value} (X : K.In h) (G : h.Ns mainGlobals mg) (a : PySem.W.nsIn K mainGlobals x = some (some (.ref f)))
    (l : K.lookup f = some ⟨oc, od, .func (PySem.W.fnOf x x (defArgs st) (defBody st) (defScope st) .none kV doc pm an cdv ct), osl⟩) (c : PySem.W.codeIn K cdv x = true) (k : PySem.W.keepIn K (.ref f) = true)
    (hb : ∀ (kV doc pm : Value) (an : Option Addr) (cdv ct : Value) (us : List Value), us.length = pn.length → bindArgs (PySem.W.fnOf x x (defArgs st) (defBody st) (defScope st) .none kV doc pm an cdv ct) ⟨us, []⟩ = pure (pn.zip us)) : Df K mg x st pn :=
  ⟨f, _, fun_mk l c k, PySem.W.mg_of X G a, (fun_mk l c k).binds hb⟩
theorem fn_run {x : Str} {st : Stmt} {N pn : List Str} {k m n : Nat} {blt : List Str} {fns : List (Str × (List PV → Option PV))} {body : Cst} (D : Df K mg x st pn) (S : FnScope N pn (defScope st)) (hb : bodyOf N st blt fns = some body)
    (hblt : ∀ y ∈ blt, mg y = none) (hfns : ∀ y h, fns.lookup y = some h → ∃ j, j ≤ k ∧ FnP P w K mg base y j h) (hm : pn.length = m := by rfl) (hn : N.length = n := by rfl) : FnP P w K mg base x (k + 1) (fRun m n body) :=
  fn_ok D S hb hblt hfns fun ps r e => by
    obtain ⟨h1, h2⟩ := fRun_hg e
    rw [hm, hn]
    exact ⟨h1, h2⟩
/-- is_int, as a function -/
def gIsI : List PV → Option PV := fun ps => match ps with
  | [p] => runF bIsInt 1 [p]
  | _ => none
theorem isI_fnp {x : Str} {st : Stmt} {N pn : List Str} {blt : List Str} (D : Df K mg x st pn) (S : FnScope N pn (defScope st)) (hb : bodyOf N st blt [] = some bIsInt) (hblt : ∀ y ∈ blt, mg y = none) (hm : pn.length = 1 := by rfl) (hn : N.length = 1 := by rfl) : FnP P w K mg base x 1 gIsI :=
  fn_ok D S hb hblt hf_nil fun ps r e => by
    unfold gIsI at e
    split at e
    · rw [hm, hn]
      exact ⟨rfl, e⟩
    · cases e
theorem like_fnp {st : Stmt} {N pn : List Str} {blt : List Str} (D : Df K mg "_law_like" st pn) (S : FnScope N pn (defScope st)) (hb : ∀ g1 g2, bodyOf N st blt [("_law_like", g1), ("_law_is_int", g2)] = some (bLike g1 g2)) (hblt : ∀ y ∈ blt, mg y = none)
    (hI : FnP P w K mg base "_law_is_int" 1 gIsI) (hm : pn.length = 2 := by rfl) (hn : N.length = 3 := by rfl) : ∀ d, FnP P w K mg base "_law_like" (d + 1) (gLike d)
  | 0 => (FnP.zero D).mono (by decide)
  | d + 1 => fn_ok D S (hb (gLike d) gIsI) hblt (hf_cons (like_fnp D S hb hblt hI hm hn d) (hf_cons hI hf_nil (by omega)) (by omega)) fun ps r e => by
    match ps, e with
    | [p, q], e =>
      rw [hm, hn]
      exact ⟨rfl, e⟩
    | [], e => cases e
    | [_], e => cases e
    | _ :: _ :: _ :: _, e => cases e
theorem isI_int (i : Int) : gIsI [.int i] = some (.bl true) := rfl
theorem mixed_fnp {st : Stmt} {N pn : List Str} {blt : List Str} (D : Df K mg "_law_mixed" st pn) (S : FnScope N pn (defScope st)) (hb : bodyOf N st blt [] = some bMixed) (hblt : ∀ y ∈ blt, mg y = none) (hm : pn.length = 2 := by rfl) (hn : N.length = 6 := by rfl) : FnP P w K mg base "_law_mixed" 1 (fRun 2 6 bMixed) :=
  fn_run D S hb hblt hf_nil hm hn
def gRow : List PV → Option PV := fRun 2 5 (bRow (fRun 2 6 bMixed))
theorem row_fnp {st : Stmt} {N pn : List Str} {blt : List Str} (D : Df K mg "_law_row" st pn) (S : FnScope N pn (defScope st)) (hb : ∀ g, bodyOf N st blt [("_law_mixed", g)] = some (bRow g)) (hblt : ∀ y ∈ blt, mg y = none) (hM : FnP P w K mg base "_law_mixed" 1 (fRun 2 6 bMixed)) (hm : pn.length = 2 := by rfl) (hn : N.length = 5 := by rfl) : FnP P w K mg base "_law_row" 2 gRow :=
  fn_run D S (hb _) hblt (hf_cons hM hf_nil) hm hn
theorem gRow_ok (ns : List Int) {many : Nat} (hm : many ≤ 1000) : ∃ r, gRow [.scr (ns.map .int), .int many] = some r ∧ ∃ l, r = .lst l ∧ l.length = many ∧ ∀ p ∈ l, RowN p :=
  row_ok (g := fRun 2 6 bMixed) (fun ns k => mixed_ok ns k) ns hm
end
end Pi

/-! Pi 19: more of lists of ints on paper. -/
namespace Pi
open PySem PySem.Spec PyProof.Rows L2
section
variable {f g h : Cl} {ρ : En} {i j : Int} {p q r : PV} {l m : List PV} {Q : En → Fl → Prop}
theorem e_eqI {f : Cl} {ρ : En} {i j : Int} (h : f ρ = some (.int i)) (e : i = j) : f ρ = some (.int j) := e ▸ h
theorem sz_of {n : Nat} (h : n ≤ 1000) : n < sizeLine := by show n < 2 ^ 24; omega
theorem sz_le {n : Nat} (h : n ≤ 1000) : n ≤ sizeLine := Nat.le_of_lt (sz_of h)
theorem ixL {ns : List Int} {i : Nat} (h : i < ns.length) : ixV (.lst (ns.map .int)) (.int i) = some (.int ns[i]) := by
  show atI _ _ = _
  refine atI_nat ?_
  rw [List.getElem?_map, List.getElem?_eq_getElem h]
  rfl
theorem ixT {ns : List Int} {i : Nat} (h : i < ns.length) : ixV (.tup (ns.map .int)) (.int i) = some (.int ns[i]) := by
  show atI _ _ = _
  refine atI_nat ?_
  rw [List.getElem?_map, List.getElem?_eq_getElem h]
  rfl
theorem ixN_at {n j : Nat} (hj : j < n) : ixN n (j : Int) = some j := by
  unfold ixN
  rw [if_pos (by omega), if_pos (by omega)]
  rfl
theorem wp_no {t : Ct} {f : Cst} {ρ : En} {Q : En → Fl → Prop} (e : t ρ = some false) (w : Q ρ .nx) : Wp (cIfS t f cSkip) ρ Q := wp_ifF e (wp_skip w)
theorem ne_same {p : PV} (h : shapedP p = true) : cmpV .NotEq p p = some false := by
  show (pvEq p p).map _ = _
  rw [pvEq_same h]
  rfl
theorem eq_same {p : PV} (h : shapedP p = true) : cmpV .Eq p p = some true := pvEq_same h
theorem lenT (ns : List Int) : lenV (.tup (ns.map .int)) = some (ns.length : Int) := by show some ((ns.map PV.int).length : Int) = _; rw [List.length_map]
theorem lenL (ns : List Int) : lenV (.lst (ns.map .int)) = some (ns.length : Int) := by show some ((ns.map PV.int).length : Int) = _; rw [List.length_map]
theorem e_lenT {ns : List Int} (hf : f ρ = some (.tup (ns.map .int))) : cApp (g1 fun p => Option.map PV.int (lenV p)) [f] ρ = some (.int ns.length) := e_len hf (lenT ns)
theorem e_lenL {ns : List Int} (hf : f ρ = some (.lst (ns.map .int))) : cApp (g1 fun p => Option.map PV.int (lenV p)) [f] ρ = some (.int ns.length) := e_len hf (lenL ns)
/-! ### comprehensions with a test -/
theorem cLoop_filt {g : Tg} {t : Ct} {f : Cl} {ρ : En} {T : PV → Bool} {F : PV → PV} : ∀ {items : List PV}, (∀ p ∈ items, ∃ ρ1, g p ρ = some ρ1 ∧ t ρ1 = some (T p) ∧ (T p = true → f ρ1 = some (F p))) → cLoop g t f ρ items = some ((items.filter T).map F)
  | [], _ => rfl
  | p :: l, h => by
    obtain ⟨ρ1, h1, h2, h3⟩ := h p List.mem_cons_self
    have ih := cLoop_filt (g := g) (t := t) (f := f) (ρ := ρ) (T := T) (F := F) (items := l) fun q hq => h q (List.mem_cons_of_mem _ hq)
    unfold cLoop
    rw [h1]
    dsimp only [Option.bind]
    rw [h2]
    cases e : T p with
    | true =>
      dsimp only
      rw [if_pos rfl, h3 e, ih, List.filter_cons, if_pos e]
      rfl
    | false =>
      dsimp only
      rw [if_neg Bool.false_ne_true, ih, List.filter_cons, if_neg (by rw [e]; exact Bool.false_ne_true)]
theorem e_filt {vs : List Nat} {g : Tg} {it : Ci} {t : Ct} {f : Cl} {items : List PV} (T : PV → Bool) (F : PV → PV) (hi : it ρ = some items) (hf : ∀ p ∈ items, ∃ ρ1, g p (wipeE ρ vs) = some ρ1 ∧ t ρ1 = some (T p) ∧ (T p = true → f ρ1 = some (F p))) (hl : items.length ≤ sizeLine) : cComp vs g it t f ρ = some (.lst ((items.filter T).map F)) := by
  simp only [cComp, hi, Option.bind_some, cLoop_filt hf]
  rw [List.length_map, show seqOk (items.filter T).length = true from decide_eq_true (Nat.le_trans (List.length_filter_le _ _) hl), if_pos rfl]
/-- over ints, those that pass, each turned into an int -/
theorem e_filtI {vs : List Nat} {g : Tg} {it : Ci} {t : Ct} {f : Cl} {ns : List Int} (T : Int → Bool) (F : Int → Int) (hi : it ρ = some (ns.map .int)) (hf : ∀ x ∈ ns, ∃ ρ1, g (.int x) (wipeE ρ vs) = some ρ1 ∧ t ρ1 = some (T x) ∧ (T x = true → f ρ1 = some (.int (F x)))) (hl : ns.length ≤ sizeLine) : cComp vs g it t f ρ = some (.lst (((ns.filter T).map F).map .int)) := by
  have e := e_filt (vs := vs) (g := g) (it := it) (t := t) (f := f) (fun p => match p with
    | .int x => T x
    | _ => false) (fun p => match p with
    | .int x => .int (F x)
    | p => p) hi (fun p hp => by
      obtain ⟨x, hx, rfl⟩ := List.mem_map.mp hp
      exact hf x hx) (by rw [List.length_map]; exact hl)
  rw [e, List.filter_map, List.map_map, List.map_map]
  rfl
/-- over ints, those that pass -/
theorem e_filtJ {vs : List Nat} {g : Tg} {it : Ci} {t : Ct} {f : Cl} {ns : List Int} (T : Int → Bool) (hi : it ρ = some (ns.map .int)) (hf : ∀ x ∈ ns, ∃ ρ1, g (.int x) (wipeE ρ vs) = some ρ1 ∧ t ρ1 = some (T x) ∧ (T x = true → f ρ1 = some (.int x))) (hl : ns.length ≤ sizeLine) : cComp vs g it t f ρ = some (.lst ((ns.filter T).map .int)) := by
  have e := e_filtI (vs := vs) (g := g) (it := it) (t := t) (f := f) T (fun x => x) hi hf hl
  rw [List.map_id'] at e
  exact e
/-- all([.. for x in ints]) -/
theorem blsOf_bl : ∀ bs : List Bool, blsOf (bs.map .bl) = some bs
  | [] => rfl
  | b :: bs => by rw [List.map_cons, blsOf, blsOf_bl bs]; rfl
theorem e_allI {vs : List Nat} {g : Tg} {it : Ci} {f : Cl} {ns : List Int} (T : Int → Bool) (hi : it ρ = some (ns.map .int)) (hf : ∀ x ∈ ns, ∃ ρ1, g (.int x) (wipeE ρ vs) = some ρ1 ∧ f ρ1 = some (.bl (T x))) (hl : ns.length ≤ sizeLine) : cApp (g1 allV) [cComp vs g it cYes f] ρ = some (.bl (ns.all T)) := by
  have e := e_comp (vs := vs) (g := g) (it := it) (f := f) (fun p => match p with
    | .int x => .bl (T x)
    | p => p) hi (fun p hp => by
      obtain ⟨x, hx, rfl⟩ := List.mem_map.mp hp
      exact hf x hx) (by rw [List.length_map]; exact hl)
  refine e_app1 (p := .lst ((ns.map T).map .bl)) (by rw [e, List.map_map, List.map_map]; rfl) ?_
  show (blsOf ((ns.map T).map .bl)).map _ = _
  rw [blsOf_bl]
  show some (PV.bl ((ns.map T).all id)) = _
  rw [List.all_map]
  rfl
/-! ### in and not in -/
theorem any_eqv (x : Int) : ∀ ns : List Int, (ns.map PV.int).any (fun z => PyData.eqv z.toD (PV.int x).toD) = decide (x ∈ ns)
  | [] => rfl
  | n :: ns => by
    rw [List.map_cons, List.any_cons, any_eqv x ns]
    rw [show PyData.eqv (PV.int n).toD (PV.int x).toD = (n == x) by rw [PV.toD, PV.toD, PyData.eqv]]
    rw [Bool.eq_iff_iff, Bool.or_eq_true, decide_eq_true_iff, decide_eq_true_iff, List.mem_cons, beq_iff_eq]
    exact ⟨fun h => h.elim (fun h => .inl h.symm) .inr, fun h => h.elim (fun h => .inl h.symm) .inr⟩
theorem in_tup (x : Int) (ns : List Int) : cmpV .In (.int x) (.tup (ns.map .int)) = some (decide (x ∈ ns)) := by
  show (if shapedP (.int x) && SeqAt.shaped (.list (toDs (ns.map PV.int))) then some ((ns.map PV.int).any fun z => PyData.eqv z.toD (PV.int x).toD) else none) = _
  rw [any_eqv, show SeqAt.shaped (.list (toDs (ns.map PV.int))) = true from shaped_lst ns]
  rfl
theorem in_lst (x : Int) (ns : List Int) : cmpV .In (.int x) (.lst (ns.map .int)) = some (decide (x ∈ ns)) := by
  show (if shapedP (.int x) && SeqAt.shaped (.list (toDs (ns.map PV.int))) then some ((ns.map PV.int).any fun z => PyData.eqv z.toD (PV.int x).toD) else none) = _
  rw [any_eqv, show SeqAt.shaped (.list (toDs (ns.map PV.int))) = true from shaped_lst ns]
  rfl
theorem nin_tup (x : Int) (ns : List Int) : cmpV .NotIn (.int x) (.tup (ns.map .int)) = some (decide (x ∉ ns)) := by
  show (cmpV .In (.int x) (.tup (ns.map .int))).map _ = _
  rw [in_tup]
  show some (!decide (x ∈ ns)) = _
  rw [← decide_not]
theorem nin_lst (x : Int) (ns : List Int) : cmpV .NotIn (.int x) (.lst (ns.map .int)) = some (decide (x ∉ ns)) := by
  show (cmpV .In (.int x) (.lst (ns.map .int))).map _ = _
  rw [in_lst]
  show some (!decide (x ∈ ns)) = _
  rw [← decide_not]
/-! ### the greatest -/
def maxI (x : Int) (l : List Int) : Int := l.foldl (fun a y => if a < y then y else a) x
theorem maxI_lt : ∀ (l : List Int) (x n : Int), maxI x l < n ↔ x < n ∧ ∀ y ∈ l, y < n
  | [], x, n => by simp [maxI]
  | y :: l, x, n => by
    show maxI (if x < y then y else x) l < n ↔ _
    rw [maxI_lt l]
    constructor
    · rintro ⟨h1, h2⟩
      split at h1
      · exact ⟨by omega, fun z hz => (List.mem_cons.mp hz).elim (fun e => by omega) (h2 z)⟩
      · exact ⟨h1, fun z hz => (List.mem_cons.mp hz).elim (fun e => by omega) (h2 z)⟩
    · rintro ⟨h1, h2⟩
      refine ⟨?_, fun z hz => h2 z (List.mem_cons_of_mem _ hz)⟩
      have := h2 y List.mem_cons_self
      split <;> omega
theorem maxP_int : ∀ (l : List Int) (x : Int), maxP (.int x) (l.map .int) = .int (maxI x l)
  | [], _ => rfl
  | y :: l, x => by
    have e : PySem.W.dataLt (PV.int x).toD (PV.int y).toD = decide (x < y) := by
      rw [PV.toD, PV.toD, PySem.W.dataLt_int]
    show maxP (if PySem.W.dataLt (PV.int x).toD (PV.int y).toD then .int y else .int x) (l.map .int) = _
    rw [e]
    show _ = PV.int (maxI (if x < y then y else x) l)
    by_cases h : x < y
    · rw [if_pos (by simpa using h), if_pos h, maxP_int l]
    · rw [if_neg (by simpa using h), if_neg h, maxP_int l]
theorem e_maxI {x : Int} {ns : List Int} (hf : f ρ = some p) (hp : p = .tup ((x :: ns).map .int) ∨ p = .lst ((x :: ns).map .int)) : cApp maxL [f] ρ = some (.int (maxI x ns)) := by
  refine e_app1 hf ?_
  have e : seqOf p = some ((x :: ns).map .int) := by rcases hp with rfl | rfl <;> rfl
  have ok : extOk ((x :: ns).map .int) = true := by
    have h := sortOk_ints (x :: ns)
    unfold sortOk at h
    simp only [Bool.and_eq_true] at h
    unfold extOk
    simp only [Bool.and_eq_true]
    refine ⟨⟨⟨h.1.1.1, h.1.1.2⟩, h.1.2⟩, ?_⟩
    rw [List.all_eq_true]
    intro q hq
    obtain ⟨y, _, rfl⟩ := List.mem_map.mp hq
    rfl
  show (seqOf p).bind _ = _
  rw [e, Option.bind_some, if_pos ok]
  show some (maxP (.int x) (ns.map .int)) = _
  rw [maxP_int]
theorem e_tup2 (hf : f ρ = some p) (hg : g ρ = some q) : cTup [f, g] ρ = some (.tup [p, q]) := by
  simp only [cTup, evs, hf, hg, Option.bind_some, Option.map_some]
  rw [show seqOk [p, q].length = true from decide_eq_true (sz_le (n := 2) (by decide)), if_pos rfl]
theorem e_tup1 (hf : f ρ = some p) : cTup [f] ρ = some (.tup [p]) := by
  simp only [cTup, evs, hf, Option.bind_some, Option.map_some]
  rw [show seqOk [p].length = true from decide_eq_true (sz_le (n := 1) (by decide)), if_pos rfl]
theorem evs2 (hf : f ρ = some p) (hg : g ρ = some q) : evs [f, g] ρ = some [p, q] := by simp only [evs, hf, hg, Option.bind_some, Option.map_some]
end
end Pi

/-! Pi 20: _law_order, which many laws have; the row's numbers. -/
namespace Pi
open PySem PySem.Spec PyProof.Rows L2
def rv (l : List PV) (i : Nat) : Int := match l[i]? with
  | some (.int x) => x
  | _ => 0
theorem row_get {l : List PV} (hr : ∀ p ∈ l, RowN p) {i : Nat} (hi : i < l.length) : l[i]? = some (.int (rv l i)) ∧ 0 ≤ rv l i ∧ rv l i < 1000003 := by
  obtain ⟨x, e, h0, h1⟩ := hr _ (List.getElem_mem hi)
  have g : l[i]? = some (.int x) := by rw [List.getElem?_eq_getElem hi, e]
  have ev : rv l i = x := by unfold rv; rw [g]
  rw [ev]
  exact ⟨g, h0, h1⟩
theorem row_ix {l : List PV} (hr : ∀ p ∈ l, RowN p) {i : Nat} (hi : i < l.length) : ixV (.lst l) (.int i) = some (.int (rv l i)) := by
  show atI _ _ = _
  exact atI_nat (row_get hr hi).1
/-- row[e] where e is the i-th place -/
theorem e_row {l : List PV} {f g : Cl} {ρ : En} {j : Int} {i : Nat} (hr : ∀ p ∈ l, RowN p) (hf : f ρ = some (.lst l)) (hg : g ρ = some (.int j)) (e : j = (i : Int)) (hi : i < l.length) : cApp (g1 intV) [cIx f g] ρ = some (.int (rv l i)) := e_int (e_ix hf (e ▸ hg) (row_ix hr hi))
def b_law_order' : Cst :=
  (cSeq (cRow [3, 4] [true, true] [cLstRg [cVarB 2], cLst []])
    (cSeq
      (cForS (itRg [cVarB 2]) (gN 5)
        (cSeq
          (cAsgV 6
            (cIx (cVarB 3)
              (cBin Operator.Mod (cApp (g1 intV) [cIx (cVarB 0) (cBin Operator.Add (cVarB 1) (cVarB 5))])
                (cApp (g1 fun p => Option.map PV.int (lenV p)) [cVarB 3]))))
          (cSeq (cAppend 4 (cVar 6))
            (cAsgF 3 (cComp [7] (gN 7) (itOf (cVarB 3)) (cCmpT CmpOp.NotEq (cVarB 7) (cVarB 6)) (cVar 7))))))
      (cRet (cVarB 4))))
theorem filt_perm : ∀ {l : List Int} {x : Int}, l.Nodup → x ∈ l → l.Perm (x :: l.filter fun y => !decide (y = x))
  | [], _, _, h => by cases h
  | y :: l, x, nd, h => by
    obtain ⟨n1, n2⟩ := List.nodup_cons.mp nd
    by_cases e : y = x
    · subst e
      have : (y :: l).filter (fun z => !decide (z = y)) = l := by
        rw [List.filter_cons, if_neg (by simp), List.filter_eq_self]
        intro z hz
        have : z ≠ y := fun q => n1 (q ▸ hz)
        simp [this]
      rw [this]
    · have hm : x ∈ l := (List.mem_cons.mp h).resolve_left fun z => e z.symm
      rw [List.filter_cons, if_pos (by simp [e])]
      exact ((filt_perm n2 hm).cons y).trans (List.Perm.swap _ _ _)
theorem order_ok {l : List PV} {a n : Nat} (hr : ∀ p ∈ l, RowN p) (hn : n ≤ 1000) (ha : a + n ≤ l.length) : ∃ r, runF b_law_order' 8 [.lst l, .int a, .int n] = some r ∧ ∃ os : List Int, r = .lst (os.map .int) ∧ os.Perm (upTo n) := by
  refine run_ex (wp_seq (wp_row (ps := [.lst ((upTo n).map .int), .lst []]) (evs2 (by rw [← rgP_up]; exact e_lstRg1 rfl (by omega) (by omega)) rfl) (sz_le (n := 2) (by decide)) rfl ?_))
  refine wp_seq (wp_for (fun k ρ => ∃ (left found : List Int) (x y z : Sl), ρ = [.val (.lst l), .val (.int a), .val (.int n), .own (.lst (left.map .int)), .own (.lst (found.map .int)), x, y, z] ∧ left.length + k = n ∧ found.length = k ∧ left.Nodup ∧ (found ++ left).Perm (upTo n)) (it_rg1 rfl (by omega) (by omega))
    ⟨upTo n, [], .un, .un, .un, rfl, upTo_len n, rfl, (upTo_pw n).imp fun h => by omega, by simp⟩ (fun k p ρ1 hp hi => ?_) (fun ρ1 hi => ?_))
  · obtain ⟨left, found, x, y, z, rfl, h1, h2, h3, h4⟩ := hi
    obtain ⟨rfl, hlt⟩ := rgP_get hp
    have hll : 0 < left.length := by omega
    obtain ⟨v0, v1⟩ := (row_get hr (i := a + k) (by omega)).2
    have m0 := Int.emod_nonneg (rv l (a + k)) (show (left.length : Int) ≠ 0 by omega)
    have m1 := Int.emod_lt_of_pos (rv l (a + k)) (show (0 : Int) < left.length by omega)
    obtain ⟨j, hj⟩ : ∃ j : Nat, rv l (a + k) % (left.length : Int) = j := ⟨(rv l (a + k) % (left.length : Int)).toNat, by omega⟩
    have hjl : j < left.length := by omega
    have hm := filt_perm h3 (List.getElem_mem hjl)
    have hlen := hm.length_eq
    rw [List.length_cons] at hlen
    refine ⟨_, rfl, wp_seq (wp_asgV (e_ix (p := .lst (left.map .int)) rfl (e_eqI (e_mod (e_row (i := a + k) hr rfl (e_add rfl rfl) (by omega) (by omega)) (e_lenL rfl) (by omega)) hj) (ixL hjl)) ?_)⟩
    refine wp_seq (wp_append (l := found.map .int) rfl rfl (by rw [List.length_map]; exact sz_of (by omega)) ?_)
    refine wp_asgF (e_filtJ (ns := left) (fun w => !decide (w = left[j])) (it_lst rfl) (fun w hw => ⟨_, rfl, q_ne rfl rfl, fun _ => rfl⟩) (by exact sz_le (by omega))) ?_
    refine ⟨left.filter fun w => !decide (w = left[j]), found ++ [left[j]], .val (.int (0 + (k : Int))), .val (.int left[j]), z, ?_, by omega, by simp [h2], h3.filter _, ?_⟩
    · rw [List.map_append]
      rfl
    · rw [List.append_assoc]
      exact (hm.symm.append_left found).trans h4
  · obtain ⟨left, found, x, y, z, rfl, h1, h2, h3, h4⟩ := hi
    rw [rgP_len] at h1
    have : left = [] := List.length_eq_zero_iff.mp (by omega)
    subst this
    rw [List.append_nil] at h4
    exact wp_ret rfl ⟨_, rfl, found, rfl, h4⟩
end Pi

/-! Pi 21: texts of two signs; more of tuples. -/
namespace Pi
open PySem PySem.Spec PyProof.Rows L2
theorem eqv_ints : ∀ l m : List Int, PyData.eqvAll (l.map PyData.int) (m.map PyData.int) = decide (l = m)
  | [], [] => by simp [PyData.eqvAll]
  | [], y :: m => by simp [PyData.eqvAll]
  | x :: l, [] => by simp [PyData.eqvAll]
  | x :: l, y :: m => by
    rw [List.map_cons, List.map_cons, PyData.eqvAll, eqv_ints l m, PyData.eqv]
    rw [Bool.eq_iff_iff, Bool.and_eq_true, beq_iff_eq, decide_eq_true_iff, decide_eq_true_iff, List.cons.injEq]
theorem eq_tups (l m : List Int) : pvEq (.tup (l.map .int)) (.tup (m.map .int)) = some (decide (l = m)) := by
  show (if shapedP _ && shapedP _ then some (PyData.eqv _ _) else none) = _
  rw [shaped_tup, shaped_tup, PV.toD, PV.toD, toDs_ints, toDs_ints]
  show some (PyData.eqv (.tuple _) (.tuple _)) = _
  rw [PyData.eqv, eqv_ints]
theorem ne_tups (l m : List Int) : cmpV .NotEq (.tup (l.map .int)) (.tup (m.map .int)) = some (!decide (l = m)) := by
  show (pvEq _ _).map _ = _
  rw [eq_tups]
  rfl
theorem ixD {ws : List Int} {i : Nat} (h : i < ws.length) : ixV (.tup (ws.map .int)) (.int i) = some (.int (ws.getD i 0)) := by
  rw [ixT h, List.getD_eq_getElem?_getD, List.getElem?_eq_getElem h]
  rfl
theorem e_tupRg1 {f : Cl} {ρ : En} {n : Int} (hf : f ρ = some (.int n)) (h0 : -(2 ^ 62) ≤ n) (h1 : n ≤ 2 ^ 24) : cTupRg [f] ρ = some (.tup (rgP 0 n)) := by
  have e : rgOk 0 n = true := by
    unfold rgOk
    rw [decide_eq_true h0, decide_eq_true (by omega : n < 2 ^ 62), decide_eq_true (by omega : (n - 0).toNat ≤ 2 ^ 24)]
    rfl
  simp only [cTupRg, evs, hf, Option.bind_some, Option.map_some, rgL]
  rw [e, if_pos rfl]
/-! ### texts -/
def chS (b : Bool) : Str := ⟨#[if b then 73 else 79]⟩
def txt (bs : List Bool) : Str := ⟨(bs.map fun b => if b then 73 else 79).toArray⟩
theorem txt_len (bs : List Bool) : (txt bs).length = bs.length := by
  show (List.toArray _).size = _
  rw [List.size_toArray, List.length_map]
theorem txt_signs (bs : List Bool) : signs (txt bs) = bs.map fun b => PV.str (chS b) := by
  unfold signs txt
  rw [List.map_map]
  rfl
theorem ch_isI (b : Bool) : decide (chS b = Str.ofString "I") = b := by cases b <;> decide +kernel
theorem q_isI {f g : Cl} {ρ : En} {b : Bool} (hf : f ρ = some (.str (chS b))) (hg : g ρ = some (.str (Str.ofString "I"))) : cCmpT .Eq f g ρ = some b := q_cmp hf hg (by
  show some (decide (chS b = Str.ofString "I")) = _
  rw [ch_isI])
theorem e_isI {f g : Cl} {ρ : En} {b : Bool} (hf : f ρ = some (.str (chS b))) (hg : g ρ = some (.str (Str.ofString "I"))) : cCmp .Eq f g ρ = some (.bl b) := e_cmp hf hg (by
  show some (decide (chS b = Str.ofString "I")) = _
  rw [ch_isI])
theorem ch_I : Str.ofString "I" = chS true := by decide +kernel
theorem ch_O : Str.ofString "O" = chS false := by decide +kernel
theorem txt_nil : Str.ofString "" = txt [] := by decide +kernel
theorem txt_cons (b : Bool) (bs : List Bool) : chS b ++ txt bs = txt (b :: bs) := by
  show (⟨_ ++ _⟩ : Str) = _
  unfold txt chS
  rw [List.map_cons]
  congr 1
  simp
theorem e_catS {f g : Cl} {ρ : En} {b : Bool} {bs : List Bool} (hf : f ρ = some (.str (chS b))) (hg : g ρ = some (.str (txt bs))) (h : bs.length ≤ 900) : cBin .Add f g ρ = some (.str (txt (b :: bs))) := by
  refine e_bin hf hg ?_
  show (if seqOk ((chS b).length + (txt bs).length) then some (PV.str (chS b ++ txt bs)) else none) = _
  have hz : (chS b).length + bs.length ≤ sizeLine := sz_le (n := 1 + bs.length) (by omega)
  rw [txt_cons, txt_len, show seqOk ((chS b).length + bs.length) = true from decide_eq_true hz, if_pos rfl]
theorem foldl_app : ∀ (bs : List Bool) (acc : Array Nat), ((bs.map chS).foldl (fun acc p => acc ++ (Str.ofString "").cps ++ p.cps) acc) = acc ++ (bs.map fun b => if b then 73 else 79).toArray
  | [], acc => by simp
  | b :: bs, acc => by
    rw [List.map_cons, List.foldl_cons, foldl_app bs, List.map_cons]
    rw [show (Str.ofString "").cps = #[] by decide +kernel]
    show (acc ++ #[] ++ #[_]) ++ _ = _
    simp
theorem join_txt (bs : List Bool) : Txt.join (Str.ofString "") (bs.map chS) = txt bs := by
  cases bs with
  | nil => decide +kernel
  | cons b bs =>
    show (⟨((bs.map chS).foldl (fun acc p => acc ++ (Str.ofString "").cps ++ p.cps) (chS b).cps)⟩ : Str) = _
    rw [foldl_app]
    exact txt_cons b bs
theorem strsOf_str : ∀ ys : List Str, strsOf (ys.map .str) = some ys
  | [] => rfl
  | y :: ys => by rw [List.map_cons, strsOf, strsOf_str ys]; rfl
theorem sum_ones' : ∀ bs : List Bool, ((bs.map chS).map (·.length)).sum = bs.length
  | [] => rfl
  | b :: bs => by
    rw [List.map_cons, List.map_cons, List.sum_cons, sum_ones' bs, List.length_cons]
    show 1 + bs.length = _
    omega
theorem e_joinT {f : Cl} {ρ : En} {bs : List Bool} (hf : f ρ = some (.lst (bs.map fun b => PV.str (chS b)))) (h : bs.length ≤ 1000) : cJoin (Str.ofString "") f ρ = some (.str (txt bs)) := by
  have e : (bs.map fun b => PV.str (chS b)) = (bs.map chS).map .str := by rw [List.map_map]; rfl
  rw [e] at hf
  simp only [cJoin, hf, Option.bind_some, joinV, seqOf, strsOf_str]
  rw [sum_ones', List.length_map, join_txt, show (Str.ofString "").length = 0 by decide +kernel, if_pos (by omega)]
theorem arr_cons (acc : Array Nat) (c : Nat) (l : List Nat) : (acc ++ #[c]) ++ l.toArray = acc ++ (c :: l).toArray := by simp
theorem foldl_rep (b : Bool) : ∀ (n : Nat) (acc : Array Nat), (List.replicate n (chS b).cps).foldl (· ++ ·) acc = acc ++ ((List.replicate n b).map fun b => if b then 73 else 79).toArray
  | 0, acc => by simp
  | n + 1, acc => by
    rw [List.replicate_succ, List.foldl_cons, foldl_rep b n, List.replicate_succ, List.map_cons]
    exact arr_cons _ _ _
theorem rep_txt (b : Bool) (n : Nat) : repS (chS b) n = txt (List.replicate n b) := by
  unfold repS txt
  rw [foldl_rep]
  congr 1
  simp
theorem e_repT {f g : Cl} {ρ : En} {b : Bool} {n : Nat} (hf : f ρ = some (.str (chS b))) (hg : g ρ = some (.int n)) (h : n ≤ 1000) : cBin .Mult f g ρ = some (.str (txt (List.replicate n b))) := by
  refine e_bin hf hg ?_
  show (if decide ((0 : Int) ≤ n) && decide ((n : Int) ≤ 1000000) && decide ((chS b).length * ((n : Nat) : Int).toNat ≤ 1000000) then some (PV.str (repS (chS b) ((n : Nat) : Int).toNat)) else none) = _
  rw [Int.toNat_natCast, rep_txt, decide_eq_true (by omega), decide_eq_true (by omega), decide_eq_true (show (chS b).length * n ≤ 1000000 from (by show 1 * n ≤ 1000000; omega))]
  rfl
theorem in_IO {f g : Cl} {ρ : En} {b : Bool} (hf : f ρ = some (.str (chS b))) (hg : g ρ = some (.str (Str.ofString "IO"))) : cCmp .In f g ρ = some (.bl true) := e_cmp hf hg (by cases b <;> kernel_rfl)
theorem ix_IO (k : Int) (h : k = 0 ∨ k = 1) : ixV (.str (Str.ofString "IO")) (.int k) = some (.str (chS (decide (k = 0)))) := by
  rcases h with rfl | rfl <;> kernel_rfl
end Pi

/-! Pi 22: more on paper: tests that fail, rows turned over. -/
namespace Pi
open PySem PySem.Spec PyProof.Rows L2
section
variable {f g h : Cl} {ρ : En} {i j : Int} {p q r : PV} {s t : Ct}
theorem q_neF (hf : f ρ = some (.int i)) (hg : g ρ = some (.int j)) (e : i = j) : cCmpT .NotEq f g ρ = some false := by
  rw [q_ne hf hg, decide_eq_true e]
  rfl
theorem q_andF {b : Bool} (h1 : s ρ = some b) (h2 : b = true → t ρ = some false) : cAndT s t ρ = some false := by
  rw [q_and (b' := false) h1 h2, Bool.and_false]
theorem q_orF (h1 : s ρ = some false) (h2 : t ρ = some false) : cOrT s t ρ = some false := q_or h1 fun _ => h2
theorem q_notF (h1 : s ρ = some true) : cNotT s ρ = some false := q_not h1
theorem e_eqT (hf : f ρ = some (.int i)) (hg : g ρ = some (.int j)) (e : i = j) : cCmp .Eq f g ρ = some (.bl true) := e_cmp hf hg (by
  subst e
  exact eq_same rfl)
theorem e_and (hf : f ρ = some (.bl true)) (hg : g ρ = some (.bl true)) : cAndV f g ρ = some (.bl true) := by
  unfold cAndV
  rw [hf]
  exact hg
theorem q_like {gL : List PV → Option PV} (hf : f ρ = some p) (hg : g ρ = some p) (hL : gL [p, p] = some (.bl true)) : cNotT (cTst (cApp gL [f, g])) ρ = some false := q_notF (q_tst (e_app2 hf hg hL) rfl)
theorem evs3 (hf : f ρ = some p) (hg : g ρ = some q) (hh : h ρ = some r) : evs [f, g, h] ρ = some [p, q, r] := by simp only [evs, hf, hg, hh, Option.bind_some, Option.map_some]
theorem e_app3 {k : List PV → Option PV} {z : PV} (hf : f ρ = some p) (hg : g ρ = some q) (hh : h ρ = some r) (hr : k [p, q, r] = some z) : cApp k [f, g, h] ρ = some z := by
  unfold cApp
  rw [evs3 hf hg hh]
  exact hr
theorem e_catI {l m : List Int} (hf : f ρ = some (.tup (l.map .int))) (hg : g ρ = some (.tup (m.map .int))) (hz : l.length + m.length ≤ 1000) : cBin .Add f g ρ = some (.tup ((l ++ m).map .int)) := by
  rw [List.map_append]
  exact e_cat hf hg (by rw [List.length_map, List.length_map]; exact sz_le hz)
theorem isT_rev (n : Nat) : isT n none none (Int.negSucc 0) = (List.range n).map fun k => n - 1 - k := by
  have e1 : (Builtin.Slice.sliceAdjust none none (Int.negSucc 0) n).1 = (n : Int) - 1 := rfl
  have e2 : (Builtin.Slice.sliceAdjust none none (Int.negSucc 0) n).2 = -1 := rfl
  have e3 : Builtin.Slice.slicePlaces ((n : Int) - 1) (-1) (Int.negSucc 0) = n := by
    unfold Builtin.Slice.slicePlaces
    rw [if_neg (by decide)]
    by_cases h : (n : Int) - 1 > -1
    · rw [if_pos h, show (-(Int.negSucc 0) : Int) = 1 by decide, Int.ediv_one]
      omega
    · rw [if_neg h]
      omega
  unfold isT
  rw [e1, e2, e3]
  refine List.map_congr_left fun k hk => ?_
  have := List.mem_range.mp hk
  rw [show (Int.negSucc 0 : Int) = -1 by decide]
  omega
theorem picks_rev {α : Type} (l : List α) : picks l ((List.range l.length).map fun k => l.length - 1 - k) = l.reverse := by
  unfold picks
  rw [List.filterMap_map]
  refine List.ext_getElem? fun i => ?_
  have key : ∀ n, n ≤ l.length → ((List.range n).filterMap ((fun i => l[i]?) ∘ fun k => l.length - 1 - k)) = l.reverse.take n := by
    intro n
    induction n with
    | zero => intro _; rfl
    | succ n ih =>
      intro hn
      have g : l[l.length - 1 - n]? = some (l[l.length - 1 - n]'(by omega)) := List.getElem?_eq_getElem (by omega)
      have g2 : l.reverse[n]? = some (l[l.length - 1 - n]'(by omega)) := by rw [List.getElem?_reverse (by omega), g]
      rw [List.range_succ, List.filterMap_append, ih (by omega), List.take_add_one, g2]
      congr 1
      show List.filterMap _ [n] = _
      rw [List.filterMap_cons_some (b := l[l.length - 1 - n]'(by omega)) (by show l[_]? = _; exact g)]
      rfl
  rw [key l.length (Nat.le_refl _), List.take_of_length_le (by rw [List.length_reverse]; exact Nat.le_refl _)]
theorem e_rev {l : List Int} (hf : f ρ = some (.tup (l.map .int))) (hl : l.length ≤ 1000) : cSt f none none (Int.negSucc 0) ρ = some (.tup (l.reverse.map .int)) := by
  simp only [cSt, hf, Option.bind_some, evO, stV]
  have hlm : (l.map PV.int).length = l.length := List.length_map _
  rw [isT_rev, if_pos (by rw [List.length_map, List.length_range, hlm]; exact sz_le hl), picks_rev, List.map_reverse]
end
theorem txt_cut (bs : List Bool) (h : bs = [] ∨ ∃ t, bs = true :: t) : decide (Txt.slice (txt bs) none (some 1) = Str.ofString "O") = false := by
  rcases h with rfl | ⟨t, rfl⟩
  · decide +kernel
  · refine decide_eq_false fun e => ?_
    have e1 : Txt.slice (txt (true :: t)) none (some 1) = Txt.slice (txt (true :: t)) (some ((0 : Nat) : Int)) (some ((1 : Nat) : Int)) := by
      unfold Txt.slice
      rw [StrLaws.sliceIdx_none_lo]
      rfl
    have e2 : Txt.slice (txt (true :: t)) (some ((0 : Nat) : Int)) (some ((1 : Nat) : Int)) = _ := StrLaws.sliceText_nat (txt (true :: t)) (a := 0) (b := 1) (by omega) (by rw [txt_len, List.length_cons]; omega)
    rw [e1, e2, ch_O] at e
    have e3 := congrArg (fun s : Str => s.cps.toList) e
    simp [txt, chS] at e3
theorem e_head {f : Cl} {ρ : En} {bs : List Bool} (hf : f ρ = some (.str (txt bs))) (hl : bs.length ≤ 1000) (h : bs = [] ∨ ∃ t, bs = true :: t) : cCmpT .Eq (cSl f none (some (cK (.int 1)))) (cK (.str (Str.ofString "O"))) ρ = some false := by
  have e : cSl f none (some (cK (.int 1))) ρ = some (.str (Txt.slice (txt bs) none (some 1))) := by
    have hz : seqOk (txt bs).length = true := decide_eq_true (by rw [txt_len]; exact sz_le hl)
    simp only [cSl, hf, Option.bind_some, evO, cK, slV]
    rw [if_pos hz]
  refine q_cmp e rfl ?_
  show some (decide (_ = _)) = _
  rw [txt_cut bs h]
end Pi

/-! Pi 23: lists of rows (tuples of ints) on paper. -/
namespace Pi
open PySem PySem.Spec PyProof.Rows L2
theorem toDs_rows : ∀ rs : List (List Int), toDs (rs.map tupI) = rs.map fun r => PyData.tuple (r.map .int)
  | [] => rfl
  | r :: rs => by
    rw [List.map_cons, toDs, toDs_rows rs]
    show PyData.tuple (toDs (r.map PV.int)) :: _ = _
    rw [toDs_ints]
    rfl
theorem lay_rows : ∀ rs : List (List Int), PyData.canLayAll0 (rs.map fun r => PyData.tuple (r.map .int)) = true
  | [] => by simp [PyData.canLayAll0]
  | r :: rs => by rw [List.map_cons, PyData.canLayAll0, lay_rows rs, PyData.canLay0, lay_ints]; rfl
theorem depth_rows : ∀ rs : List (List Int), PyData.depthAll (rs.map fun r => PyData.tuple (r.map .int)) ≤ 1
  | [] => by simp [PyData.depthAll]
  | r :: rs => by
    have := depth_rows rs
    rw [List.map_cons, PyData.depthAll, PyData.depth, depth_ints]
    omega
theorem shaped_rows (rs : List (List Int)) : shapedP (.lst (rs.map tupI)) = true := by
  unfold shapedP SeqAt.shaped
  rw [PV.toD, toDs_rows, PyData.canLay0, lay_rows, PyData.depth]
  have := depth_rows rs
  simp
  omega
theorem shaped_rowsT (rs : List (List Int)) : shapedP (.tup (rs.map tupI)) = true := by
  unfold shapedP SeqAt.shaped
  rw [PV.toD, toDs_rows, PyData.canLay0, lay_rows, PyData.depth]
  have := depth_rows rs
  simp
  omega
theorem any_row (r : List Int) : ∀ rs : List (List Int), (rs.map tupI).any (fun z => PyData.eqv z.toD (tupI r).toD) = decide (r ∈ rs)
  | [] => rfl
  | x :: rs => by
    have e : PyData.eqv (tupI x).toD (tupI r).toD = decide (x = r) := by
      show PyData.eqv (PV.toD (.tup (x.map .int))) (PV.toD (.tup (r.map .int))) = _
      rw [PV.toD, PV.toD, toDs_ints, toDs_ints, PyData.eqv, eqv_ints]
    rw [List.map_cons, List.any_cons, any_row r rs, e, Bool.eq_iff_iff, Bool.or_eq_true, decide_eq_true_iff, decide_eq_true_iff, decide_eq_true_iff, List.mem_cons]
    exact ⟨fun h => h.elim (fun h => .inl h.symm) .inr, fun h => h.elim (fun h => .inl h.symm) .inr⟩
theorem in_rows (r : List Int) (rs : List (List Int)) : cmpV .In (tupI r) (.lst (rs.map tupI)) = some (decide (r ∈ rs)) := by
  show (if shapedP (tupI r) && SeqAt.shaped (.list (toDs (rs.map tupI))) then some ((rs.map tupI).any fun z => PyData.eqv z.toD (tupI r).toD) else none) = _
  rw [any_row, show SeqAt.shaped (.list (toDs (rs.map tupI))) = true from shaped_rows rs, show shapedP (tupI r) = true from shaped_tup r]
  rfl
theorem nin_rows (r : List Int) (rs : List (List Int)) : cmpV .NotIn (tupI r) (.lst (rs.map tupI)) = some (decide (r ∉ rs)) := by
  show (cmpV .In (tupI r) (.lst (rs.map tupI))).map _ = _
  rw [in_rows]
  show some (!decide (r ∈ rs)) = _
  rw [← decide_not]
theorem sortOk_rows (rs : List (List Int)) : sortOk (rs.map tupI) = true := by
  unfold sortOk
  rw [toDs_rows, lay_rows]
  simp only [Bool.and_eq_true, Bool.or_eq_true, List.all_eq_true, decide_eq_true_eq]
  refine ⟨⟨⟨trivial, by have := depth_rows rs; omega⟩, fun a ha b hb => ?_⟩, .inl fun a ha => ?_⟩
  · obtain ⟨x, _, rfl⟩ := List.mem_map.mp ha
    obtain ⟨y, _, rfl⟩ := List.mem_map.mp hb
    show PySem.W.alike (PV.toD (.tup (x.map .int))) (PV.toD (.tup (y.map .int))) = true
    rw [PV.toD, PV.toD, toDs_ints, toDs_ints, PySem.W.alike]
    exact alike_rows x y
  · obtain ⟨x, _, rfl⟩ := List.mem_map.mp ha
    rfl
theorem sortP_rows (rs : List (List Int)) : sortP (rs.map tupI) = (sortR rs).map tupI := by
  unfold sortP sortR
  refine (List.map_mergeSort (f := tupI) fun a _ b _ => ?_).symm
  have e := congrFun (congrFun dataLe_tupI a) b
  rw [← e]
  show PySem.W.dataLe false (fun ns : List Int => PyData.tuple (ns.map .int)) a b = PySem.W.dataLe false PV.toD (tupI a) (tupI b)
  have t : ∀ x : List Int, PV.toD (tupI x) = PyData.tuple (x.map .int) := fun x => by
    show PV.toD (.tup (x.map .int)) = _
    rw [PV.toD, toDs_ints]
  show PySem.W.dataLe false (fun ns : List Int => PyData.tuple (ns.map .int)) a b = PySem.W.dataLe false (fun p => p.toD) (tupI a) (tupI b)
  rw [PySem.W.dataLe_eq, PySem.W.dataLe_eq]
  simp only [t]
section
variable {f g : Cl} {ρ : En} {p : PV}
theorem e_sortedR {rs : List (List Int)} (hf : f ρ = some p) (hp : p = .tup (rs.map tupI) ∨ p = .lst (rs.map tupI)) : cApp (g1 sortedV) [f] ρ = some (.lst ((sortR rs).map tupI)) := by
  refine e_app1 hf ?_
  have e : seqOf p = some (rs.map tupI) := by rcases hp with rfl | rfl <;> rfl
  show (seqOf p).bind _ = _
  rw [e, Option.bind_some, if_pos (sortOk_rows rs), sortP_rows]
theorem e_swR {rs : List (List Int)} (hf : f ρ = some (.lst (rs.map tupI))) (h : rs.length < 64) : cSw f ρ = some (.lst ((sortR (ddR rs)).map tupI)) := by
  simp only [cSw, hf, Option.bind_some]
  show (rowsV (rs.map tupI)).bind _ = _
  rw [rowsV_tupI, Option.bind_some, if_pos h]
end
theorem plain_rows (rs : List (List Int)) (h : rs.length ≤ 1000) (h2 : ∀ r ∈ rs, r.length ≤ 1000) : plainD 2 (.tup (rs.map tupI)) = true := by
  simp only [plainD, Bool.and_eq_true, decide_eq_true_eq, List.all_eq_true, List.length_map]
  refine ⟨sz_le h, fun p hp => ?_⟩
  obtain ⟨r, hr, rfl⟩ := List.mem_map.mp hp
  exact plain_ints r (sz_le (h2 r hr))
end Pi

/-! Pi 24: comprehensions and loops over rows of any kind. -/
namespace Pi
open PySem PySem.Spec PyProof.Rows L2
section
variable {α : Type} {f h : Cl} {it : Ci} {g : Tg} {t : Ct} {vs : List Nat} {ρ : En} {p q : PV} {i j : Int}
theorem e_cG {xs : List α} (e : α → PV) (T : α → Bool) (F : α → PV) (hi : it ρ = some (xs.map e)) (hf : ∀ x ∈ xs, ∃ ρ1, g (e x) (wipeE ρ vs) = some ρ1 ∧ t ρ1 = some (T x) ∧ (T x = true → f ρ1 = some (F x))) (hl : xs.length ≤ 1000) : cComp vs g it t f ρ = some (.lst ((xs.filter T).map F)) := by
  have key : ∀ {ys : List α}, (∀ x ∈ ys, ∃ ρ1, g (e x) (wipeE ρ vs) = some ρ1 ∧ t ρ1 = some (T x) ∧ (T x = true → f ρ1 = some (F x))) → cLoop g t f (wipeE ρ vs) (ys.map e) = some ((ys.filter T).map F) := by
    intro ys
    induction ys with
    | nil => intro _; rfl
    | cons y ys ih =>
      intro h
      obtain ⟨ρ1, h1, h2, h3⟩ := h y List.mem_cons_self
      rw [List.map_cons]
      unfold cLoop
      rw [h1]
      dsimp only [Option.bind]
      rw [h2]
      dsimp only
      rw [ih fun z hz => h z (List.mem_cons_of_mem _ hz), List.filter_cons]
      cases hT : T y with
      | true => simp only [if_true, h3 hT, Option.bind_some, Option.map_some, List.map_cons]
      | false => simp
  have hl2 : ((xs.filter T).map F).length ≤ 1000 := by
    rw [List.length_map]
    exact Nat.le_trans (List.length_filter_le _ _) hl
  simp only [cComp, hi, Option.bind_some, key hf]
  rw [show seqOk ((xs.filter T).map F).length = true from decide_eq_true (sz_le hl2), if_pos rfl]
theorem e_cM {xs : List α} (e : α → PV) (F : α → PV) (hi : it ρ = some (xs.map e)) (hf : ∀ x ∈ xs, ∃ ρ1, g (e x) (wipeE ρ vs) = some ρ1 ∧ f ρ1 = some (F x)) (hl : xs.length ≤ 1000) : cComp vs g it cYes f ρ = some (.lst (xs.map F)) := by
  have h := e_cG (g := g) (vs := vs) (t := cYes) e (fun _ => true) F hi (fun x hx => by
    obtain ⟨ρ1, h1, h2⟩ := hf x hx
    exact ⟨ρ1, h1, rfl, fun _ => h2⟩) hl
  rw [List.filter_eq_self.mpr (fun _ _ => rfl)] at h
  exact h
theorem e_allG {xs : List α} (e : α → PV) (T : α → Bool) (hi : it ρ = some (xs.map e)) (hf : ∀ x ∈ xs, ∃ ρ1, g (e x) (wipeE ρ vs) = some ρ1 ∧ f ρ1 = some (.bl (T x))) (hl : xs.length ≤ 1000) : cApp (g1 allV) [cComp vs g it cYes f] ρ = some (.bl (xs.all T)) := by
  refine e_app1 (e_cM e (fun x => .bl (T x)) hi hf hl) ?_
  show (blsOf (xs.map fun x => PV.bl (T x))).map _ = _
  rw [show (xs.map fun x => PV.bl (T x)) = (xs.map T).map PV.bl by rw [List.map_map]; rfl, blsOf_bl, Option.map_some, List.all_map]
  rfl
theorem e_anyG {xs : List α} (e : α → PV) (T : α → Bool) (hi : it ρ = some (xs.map e)) (hf : ∀ x ∈ xs, ∃ ρ1, g (e x) (wipeE ρ vs) = some ρ1 ∧ f ρ1 = some (.bl (T x))) (hl : xs.length ≤ 1000) : cApp (g1 anyV) [cComp vs g it cYes f] ρ = some (.bl (xs.any T)) := by
  refine e_app1 (e_cM e (fun x => .bl (T x)) hi hf hl) ?_
  show (blsOf (xs.map fun x => PV.bl (T x))).map _ = _
  rw [show (xs.map fun x => PV.bl (T x)) = (xs.map T).map PV.bl by rw [List.map_map]; rfl, blsOf_bl, Option.map_some, List.any_map]
  rfl
/-- a for loop over items of a kind -/
theorem wp_forL {tg : Tg} {b : Cst} {Q : En → Fl → Prop} {xs : List α} (e : α → PV) (I : Nat → En → Prop) (hi : it ρ = some (xs.map e)) (h0 : I 0 ρ)
    (hs : ∀ i x ρ1, xs[i]? = some x → I i ρ1 → ∃ ρ2, tg (e x) ρ1 = some ρ2 ∧ Wp b ρ2 fun ρ3 fl => match fl with
      | .nx => I (i + 1) ρ3
      | .ct => I (i + 1) ρ3
      | .bk => Q ρ3 .nx
      | .rt p => Q ρ3 (.rt p))
    (hq : ∀ ρ1, I xs.length ρ1 → Q ρ1 .nx) : Wp (cForS it tg b) ρ Q := by
  refine wp_for I hi h0 (fun i p ρ1 hp h => ?_) (fun ρ1 h => hq ρ1 (by rwa [List.length_map] at h))
  rw [List.getElem?_map] at hp
  obtain ⟨x, hx, rfl⟩ := Option.map_eq_some_iff.mp hp
  exact hs i x ρ1 hx h
/-- over range(n) -/
theorem wp_forN {tg : Tg} {b : Cst} {Q : En → Fl → Prop} {n : Nat} (I : Nat → En → Prop) (hf : f ρ = some (.int (n : Int))) (hn : n ≤ 1000000) (h0 : I 0 ρ)
    (hs : ∀ (i : Nat) ρ1, i < n → I i ρ1 → ∃ ρ2, tg (.int (i : Int)) ρ1 = some ρ2 ∧ Wp b ρ2 fun ρ3 fl => match fl with
      | .nx => I (i + 1) ρ3
      | .ct => I (i + 1) ρ3
      | .bk => Q ρ3 .nx
      | .rt p => Q ρ3 (.rt p))
    (hq : ∀ ρ1, I n ρ1 → Q ρ1 .nx) : Wp (cForS (itRg [f]) tg b) ρ Q := by
  refine wp_for I (it_rg1 hf (by omega) (by omega)) h0 (fun i p ρ1 hp h => ?_) (fun ρ1 h => hq ρ1 (by rwa [rgP_len, show ((n : Int) - 0).toNat = n by omega] at h))
  obtain ⟨rfl, hlt⟩ := rgP_get hp
  rw [Int.zero_add]
  exact hs i ρ1 (by omega) h
/-- over range(a, a + n) -/
theorem wp_forAB {f2 : Cl} {tg : Tg} {b : Cst} {Q : En → Fl → Prop} {a c : Int} (n : Nat) (I : Nat → En → Prop) (hf : f ρ = some (.int a)) (hg : f2 ρ = some (.int c)) (h1 : -1000000 ≤ a) (h2 : a ≤ 1000000) (h3 : -1000000 ≤ c) (h4 : c ≤ 1000000) (hn : (c - a).toNat = n) (h0 : I 0 ρ)
    (hs : ∀ (i : Nat) ρ1, i < n → I i ρ1 → ∃ ρ2, tg (.int (a + (i : Int))) ρ1 = some ρ2 ∧ Wp b ρ2 fun ρ3 fl => match fl with
      | .nx => I (i + 1) ρ3
      | .ct => I (i + 1) ρ3
      | .bk => Q ρ3 .nx
      | .rt p => Q ρ3 (.rt p))
    (hq : ∀ ρ1, I n ρ1 → Q ρ1 .nx) : Wp (cForS (itRg [f, f2]) tg b) ρ Q := by
  refine wp_for I (it_rg2 hf hg (by omega) (by omega) (by omega) (by omega)) h0 (fun i p ρ1 hp h => ?_) (fun ρ1 h => hq ρ1 (by rwa [rgP_len, hn] at h))
  obtain ⟨rfl, hlt⟩ := rgP_get hp
  exact hs i ρ1 (by omega) h
theorem it_rgN {n : Nat} (hf : f ρ = some (.int (n : Int))) (hn : n ≤ 1000000) : itRg [f] ρ = some ((List.range n).map fun i : Nat => PV.int i) := by
  rw [it_rg1 hf (by omega) (by omega), rgP_up]
  unfold upTo
  rw [List.map_map]
  rfl
theorem e_andB {h2 : Cl} {x y : Bool} (hf : f ρ = some (.bl x)) (hg : x = true → h2 ρ = some (.bl y)) : cAndV f h2 ρ = some (.bl (x && y)) := by
  unfold cAndV
  rw [hf]
  cases x with
  | true => simpa [truV] using hg rfl
  | false => rfl
theorem e_orB {h2 : Cl} {x y : Bool} (hf : f ρ = some (.bl x)) (hg : x = false → h2 ρ = some (.bl y)) : cOrV f h2 ρ = some (.bl (x || y)) := by
  unfold cOrV
  rw [hf]
  cases x with
  | false => simpa [truV] using hg rfl
  | true => rfl
theorem e_notB {x : Bool} (hf : f ρ = some (.bl x)) : cNotV f ρ = some (.bl (!x)) := by
  unfold cNotV
  rw [hf]
  rfl
theorem e_ifB {tt : Ct} {f2 : Cl} {b : Bool} (ht : tt ρ = some b) (h1 : b = true → f ρ = some p) (h2 : b = false → f2 ρ = some p) : cIf tt f f2 ρ = some p := by
  unfold cIf
  rw [ht]
  cases b with
  | true => exact h1 rfl
  | false => exact h2 rfl
theorem wp_ext {i : Nat} {l m : List PV} {Q : En → Fl → Prop} (hi : ρ[i]? = some (.own (.lst l))) (e : f ρ = some (.lst m)) (hl : l.length + m.length ≤ 1000) (w : Q (ρ.set i (.own (.lst (l ++ m)))) .nx) : Wp (cExtend i f) ρ Q := ⟨_, .nx, by
  simp only [cExtend, hi, e, Option.bind_some]
  rw [if_pos (sz_le hl)], w⟩
/-- comprehensions with two clauses -/
theorem cL2 {β : Type} {g1 : Tg} {t1 : Ct} {vs1 : List Nat} {it1 : Ci} {ρ0 : En} {xs : List α} (e : α → PV) (e1 : β → PV) (T : α → Bool) (ys : α → List β) (T1 : α → β → Bool) (F : α → β → PV) (hf : ∀ x ∈ xs, ∃ ρ1, g (e x) ρ0 = some ρ1 ∧ t ρ1 = some (T x) ∧ (T x = true → it1 ρ1 = some ((ys x).map e1) ∧ ∀ y ∈ ys x, ∃ ρ2, g1 (e1 y) (wipeE ρ1 vs1) = some ρ2 ∧ t1 ρ2 = some (T1 x y) ∧ (T1 x y = true → f ρ2 = some (F x y)))) : cLoop2 g t vs1 it1 g1 t1 f ρ0 (xs.map e) = some ((xs.filter T).flatMap fun x => ((ys x).filter (T1 x)).map (F x)) := by
  induction xs with
  | nil => rfl
  | cons x xs ih =>
    obtain ⟨ρ1, h1, h2, h3⟩ := hf x List.mem_cons_self
    have ih := ih fun z hz => hf z (List.mem_cons_of_mem _ hz)
    rw [List.map_cons]
    unfold cLoop2
    rw [h1]
    dsimp only [Option.bind]
    rw [h2]
    dsimp only
    rw [ih, List.filter_cons]
    cases hT : T x with
    | false => simp
    | true =>
      obtain ⟨h4, h5⟩ := h3 hT
      rw [if_pos rfl, h4]
      dsimp only
      have key : ∀ {zs : List β}, (∀ y ∈ zs, ∃ ρ2, g1 (e1 y) (wipeE ρ1 vs1) = some ρ2 ∧ t1 ρ2 = some (T1 x y) ∧ (T1 x y = true → f ρ2 = some (F x y))) → cLoop g1 t1 f (wipeE ρ1 vs1) (zs.map e1) = some ((zs.filter (T1 x)).map (F x)) := by
        intro zs
        induction zs with
        | nil => intro _; rfl
        | cons y zs ihz =>
          intro h
          obtain ⟨ρ2, k1, k2, k3⟩ := h y List.mem_cons_self
          rw [List.map_cons]
          unfold cLoop
          rw [k1]
          dsimp only [Option.bind]
          rw [k2]
          dsimp only
          rw [ihz fun z hz => h z (List.mem_cons_of_mem _ hz), List.filter_cons]
          cases hT1 : T1 x y with
          | true => simp only [if_true, k3 hT1, Option.bind_some, Option.map_some, List.map_cons]
          | false => simp
      rw [key h5, if_pos rfl]
      simp
theorem e_c2 {β : Type} {g1 : Tg} {t1 : Ct} {vs1 : List Nat} {it1 : Ci} {xs : List α} (e : α → PV) (e1 : β → PV) (T : α → Bool) (ys : α → List β) (T1 : α → β → Bool) (F : α → β → PV) (hi : it ρ = some (xs.map e)) (hf : ∀ x ∈ xs, ∃ ρ1, g (e x) (wipeE ρ vs) = some ρ1 ∧ t ρ1 = some (T x) ∧ (T x = true → it1 ρ1 = some ((ys x).map e1) ∧ ∀ y ∈ ys x, ∃ ρ2, g1 (e1 y) (wipeE ρ1 vs1) = some ρ2 ∧ t1 ρ2 = some (T1 x y) ∧ (T1 x y = true → f ρ2 = some (F x y)))) (hl : ((xs.filter T).flatMap fun x => ((ys x).filter (T1 x)).map (F x)).length ≤ 1000000) : cComp2 vs g it t vs1 g1 it1 t1 f ρ = some (.lst ((xs.filter T).flatMap fun x => ((ys x).filter (T1 x)).map (F x))) := by
  simp only [cComp2, hi, Option.bind_some, cL2 (g := g) (t := t) (vs1 := vs1) (it1 := it1) (g1 := g1) (t1 := t1) (f := f) (ρ0 := wipeE ρ vs) e e1 T ys T1 F hf]
  rw [if_pos (show seqOk _ = true from decide_eq_true (Nat.le_trans hl (by show 1000000 ≤ 2 ^ 24; decide)))]
end
end Pi
namespace Pi
/-- another form of the slots -/
theorem wp_env {f : Cst} {ρ ρ' : En} {Q : En → Fl → Prop} (e : ρ = ρ') (w : Wp f ρ' Q) : Wp f ρ Q := e ▸ w
end Pi
namespace Pi
open PySem PySem.Spec PyProof.Rows L2
theorem wp_augS {i : Nat} {ix f : Cl} {op : Operator} {ρ : En} {Q : En → Fl → Prop} {l : List PV} {k : Int} {p q r : PV} (hi : ρ[i]? = some (.own (.lst l))) (hx : ix ρ = some (.int k)) (h0 : 0 ≤ k) (hp : l[k.toNat]? = some p) (hf : f ρ = some q) (e : iopV op p q = some r) (w : Q (ρ.set i (.own (.lst (l.set k.toNat r)))) .nx) : Wp (cAugS i ix op f) ρ Q := ⟨_, .nx, by
  simp only [cAugS, hi, hx, Option.bind_some]
  rw [if_pos h0, hp, Option.bind_some, hf, Option.bind_some, e]
  rfl, w⟩
/-- x[i] = v of one's own list -/
theorem wp_subL {i : Nat} {ix f : Cl} {ρ : En} {Q : En → Fl → Prop} {l : List PV} {k : Int} {p : PV} (hf : f ρ = some p) (hi : ρ[i]? = some (.own (.lst l))) (hx : ix ρ = some (.int k)) (h0 : 0 ≤ k) (hk : k < l.length) (w : Q (ρ.set i (.own (.lst (l.set k.toNat p)))) .nx) : Wp (cTgA (cSubL i ix) f) ρ Q := by
  refine wp_tg hf (ρ' := ρ.set i (.own (.lst (l.set k.toNat p)))) ?_ w
  simp only [cSubL, hi, hx, Option.bind_some]
  unfold ixN
  rw [if_pos h0, if_pos (by omega)]
  rfl
end Pi

/-! k47: towers (plain). -/
namespace Pi
abbrev Tw := List Int
def okT (m : Nat) (t : Tw) : Prop := t.length = m ∧ ∀ x ∈ t, 0 ≤ x ∧ x < 3
def mv (t : Tw) (d : Nat) (o : Int) : Tw := t.take d ++ [o] ++ t.drop (d + 1)
def canB (t : Tw) (d : Nat) (o : Int) : Bool := decide (t.getD d 0 ∉ t.take d) && (decide (o ≠ t.getD d 0) && decide (o ∉ t.take d))
def pegs : List Int := [0, 1, 2]
def nbL (t : Tw) : List Tw := (List.range t.length).flatMap fun d => (pegs.filter (canB t d)).map (mv t d)
theorem pegs_mem {o : Int} : o ∈ pegs ↔ 0 ≤ o ∧ o < 3 := by
  unfold pegs
  simp only [List.mem_cons, List.not_mem_nil, or_false]
  omega
theorem nb_mem {t u : Tw} : u ∈ nbL t ↔ ∃ d o, d < t.length ∧ 0 ≤ o ∧ o < 3 ∧ t.getD d 0 ∉ t.take d ∧ o ≠ t.getD d 0 ∧ o ∉ t.take d ∧ u = mv t d o := by
  unfold nbL
  rw [List.mem_flatMap]
  constructor
  · rintro ⟨d, hd, h⟩
    obtain ⟨o, ho, rfl⟩ := List.mem_map.mp h
    obtain ⟨h1, h2⟩ := List.mem_filter.mp ho
    simp only [canB, Bool.and_eq_true, decide_eq_true_eq] at h2
    exact ⟨d, o, List.mem_range.mp hd, (pegs_mem.mp h1).1, (pegs_mem.mp h1).2, h2.1, h2.2.1, h2.2.2, rfl⟩
  · rintro ⟨d, o, h1, h2, h3, h4, h5, h6, rfl⟩
    refine ⟨d, List.mem_range.mpr h1, List.mem_map.mpr ⟨o, List.mem_filter.mpr ⟨pegs_mem.mpr ⟨h2, h3⟩, ?_⟩, rfl⟩⟩
    simp only [canB, Bool.and_eq_true, decide_eq_true_eq]
    exact ⟨h4, h5, h6⟩
theorem mv_len {t : Tw} {d : Nat} {o : Int} (h : d < t.length) : (mv t d o).length = t.length := by
  unfold mv
  simp
  omega
theorem mv_take {t : Tw} {d : Nat} {o : Int} (h : d < t.length) : (mv t d o).take d = t.take d := by
  unfold mv
  rw [List.append_assoc, List.take_append_of_le_length (by simp; omega), List.take_take, Nat.min_self]
theorem mv_drop {t : Tw} {d : Nat} {o : Int} (h : d < t.length) : (mv t d o).drop (d + 1) = t.drop (d + 1) := by
  unfold mv
  rw [List.drop_append]
  have : (t.take d ++ [o]).length = d + 1 := by simp; omega
  rw [this, Nat.sub_self, List.drop_zero, List.drop_of_length_le (by omega), List.nil_append]
theorem mv_get {t : Tw} {d : Nat} {o : Int} (h : d < t.length) : (mv t d o).getD d 0 = o := by
  unfold mv
  rw [List.getD_eq_getElem?_getD, List.append_assoc, List.getElem?_append_right (by simp; omega)]
  simp
  rw [Nat.min_eq_left (by omega)]
  simp
theorem split_at {t : Tw} {d : Nat} (h : d < t.length) : t.take d ++ [t.getD d 0] ++ t.drop (d + 1) = t := by
  rw [List.append_assoc, List.singleton_append]
  have : t.getD d 0 = t[d] := by rw [List.getD_eq_getElem?_getD, List.getElem?_eq_getElem h]; rfl
  rw [this, ← List.drop_eq_getElem_cons h, List.take_append_drop]
theorem getD_mem {t : Tw} {d : Nat} (h : d < t.length) : t.getD d 0 ∈ t := by
  have : t.getD d 0 = t[d] := by rw [List.getD_eq_getElem?_getD, List.getElem?_eq_getElem h]; rfl
  rw [this]
  exact List.getElem_mem h
theorem nb_ok {m : Nat} {t u : Tw} (h : okT m t) (hu : u ∈ nbL t) : okT m u := by
  obtain ⟨d, o, h1, h2, h3, h4, h5, h6, rfl⟩ := nb_mem.mp hu
  refine ⟨by rw [mv_len h1, h.1], fun x hx => ?_⟩
  unfold mv at hx
  rcases List.mem_append.mp hx with hx | hx
  · rcases List.mem_append.mp hx with hx | hx
    · exact h.2 x (List.mem_of_mem_take hx)
    · rw [List.mem_singleton.mp hx]; exact ⟨h2, h3⟩
  · exact h.2 x (List.mem_of_mem_drop hx)
theorem nb_sym {m : Nat} {t u : Tw} (h : okT m t) (hu : u ∈ nbL t) : t ∈ nbL u := by
  obtain ⟨d, o, h1, h2, h3, h4, h5, h6, rfl⟩ := nb_mem.mp hu
  have hp := h.2 _ (getD_mem h1)
  refine nb_mem.mpr ⟨d, t.getD d 0, by rw [mv_len h1]; exact h1, hp.1, hp.2, ?_, ?_, ?_, ?_⟩
  · rw [mv_get h1, mv_take h1]; exact h6
  · rw [mv_get h1]; exact h5.symm
  · rw [mv_take h1]; exact h4
  · have : mv (mv t d o) d (t.getD d 0) = (mv t d o).take d ++ [t.getD d 0] ++ (mv t d o).drop (d + 1) := rfl
    rw [this, mv_take h1, mv_drop h1, split_at h1]
/-! ### walks -/
inductive W (s : Tw) : Nat → Tw → Prop
  | zero : W s 0 s
  | step {k : Nat} {t u : Tw} : W s k t → u ∈ nbL t → W s (k + 1) u
theorem W.ok {m : Nat} {s t : Tw} {k : Nat} (h : okT m s) (w : W s k t) : okT m t := by
  induction w with
  | zero => exact h
  | step _ hu ih => exact nb_ok ih hu
theorem W.trans {s t u : Tw} {j k : Nat} (w : W s j t) (v : W t k u) : W s (j + k) u := by
  induction v with
  | zero => exact w
  | step _ hu ih => exact .step ih hu
theorem W.symm {m : Nat} {s t : Tw} {k : Nat} (h : okT m s) (w : W s k t) : W t k s := by
  induction w with
  | zero => exact .zero
  | @step k t u w hu ih =>
    have h1 : W u 1 t := .step .zero (nb_sym (w.ok h) hu)
    have := h1.trans ih
    rw [Nat.add_comm] at this
    exact this
def isD (s t : Tw) (d : Nat) : Prop := W s d t ∧ ∀ k, W s k t → d ≤ k
theorem isD_uniq {s t : Tw} {d e : Nat} (h1 : isD s t d) (h2 : isD s t e) : d = e := Nat.le_antisymm (h1.2 _ h2.1) (h2.2 _ h1.1)
theorem has_least {P : Nat → Prop} : ∀ k, P k → ∃ d, P d ∧ ∀ j, P j → d ≤ j := by
  intro k
  induction k using Nat.strongRecOn with
  | _ k ih =>
    intro hk
    by_cases h : ∃ j, j < k ∧ P j
    · obtain ⟨j, hj, pj⟩ := h
      exact ih j hj pj
    · exact ⟨k, hk, fun j pj => Nat.le_of_not_lt fun z => h ⟨j, z, pj⟩⟩
theorem isD_symm {m : Nat} {s t : Tw} {d : Nat} (hs : okT m s) (ht : okT m t) (h : isD s t d) : isD t s d := ⟨h.1.symm hs, fun k w => h.2 k (w.symm ht)⟩
/-- distances from a table that is right at each place -/
def allT : Nat → List Tw
  | 0 => [[]]
  | m + 1 => pegs.flatMap fun x => (allT m).map (x :: ·)
theorem allT_mem : ∀ {m : Nat} {t : Tw}, t ∈ allT m ↔ okT m t
  | 0, t => by
    unfold allT okT
    constructor
    · intro h
      rw [List.mem_singleton.mp h]
      exact ⟨rfl, fun x hx => by cases hx⟩
    · rintro ⟨h, _⟩
      rw [List.length_eq_zero_iff.mp h]
      exact List.mem_singleton.mpr rfl
  | m + 1, t => by
    unfold allT
    rw [List.mem_flatMap]
    constructor
    · rintro ⟨x, hx, h⟩
      obtain ⟨s, hs, rfl⟩ := List.mem_map.mp h
      obtain ⟨h1, h2⟩ := allT_mem.mp hs
      refine ⟨by rw [List.length_cons, h1], fun y hy => ?_⟩
      rcases List.mem_cons.mp hy with rfl | hy
      · exact pegs_mem.mp hx
      · exact h2 y hy
    · rintro ⟨h1, h2⟩
      cases t with
      | nil => simp at h1
      | cons x s =>
        refine ⟨x, pegs_mem.mpr (h2 x List.mem_cons_self), List.mem_map.mpr ⟨s, allT_mem.mpr ⟨by simpa using h1, fun y hy => h2 y (List.mem_cons_of_mem _ hy)⟩, rfl⟩⟩
def cert (m : Nat) (g : Tw) (D : Tw → Nat) : Bool := (allT m).all fun t => (if t = g then decide (D t = 0) else (nbL t).any fun u => decide (D u + 1 = D t)) && (nbL t).all fun u => decide (D t ≤ D u + 1)
theorem cert_isD {m : Nat} {g : Tw} {D : Tw → Nat} (hg : okT m g) (h : cert m g D = true) : ∀ {t : Tw}, okT m t → isD g t (D t) := by
  have hc : ∀ t, okT m t → (if t = g then decide (D t = 0) else (nbL t).any fun u => decide (D u + 1 = D t)) = true ∧ ∀ u ∈ nbL t, D t ≤ D u + 1 := fun t ht => by
    have q := List.all_eq_true.mp h t (allT_mem.mpr ht)
    rw [Bool.and_eq_true, List.all_eq_true] at q
    exact ⟨q.1, fun u hu => of_decide_eq_true (q.2 u hu)⟩
  have up : ∀ (n : Nat) (t : Tw), D t = n → okT m t → W g n t := by
    intro n
    induction n with
    | zero =>
      intro t e ht
      have q := (hc t ht).1
      by_cases z : t = g
      · rw [z]; exact .zero
      · rw [if_neg z, List.any_eq_true] at q
        obtain ⟨u, _, hu⟩ := q
        have := of_decide_eq_true hu
        omega
    | succ n ih =>
      intro t e ht
      have q := (hc t ht).1
      by_cases z : t = g
      · rw [if_pos z] at q
        have := of_decide_eq_true q
        omega
      · rw [if_neg z, List.any_eq_true] at q
        obtain ⟨u, hu, hd⟩ := q
        have hd := of_decide_eq_true hd
        exact .step (ih u (by omega) (nb_ok ht hu)) (nb_sym ht hu)
  have low : ∀ {k : Nat} {t : Tw}, W g k t → D t ≤ k := fun {k t} w => by
    induction w with
    | zero =>
      have q := (hc g hg).1
      rw [if_pos rfl] at q
      have := of_decide_eq_true q
      omega
    | @step k t u w hu ih =>
      have := (hc u (nb_ok (w.ok hg) hu)).2 t (nb_sym (w.ok hg) hu)
      omega
  intro t ht
  exact ⟨up _ t rfl ht, fun k w => low w⟩
/-- all discs to one peg, the greatest first -/
def hp : List Int → Int → Nat
  | [], _ => 0
  | x :: l, b => if x = b then hp l b else 2 ^ l.length + hp l (3 - x - b)
theorem cert_peg : ((List.range 6).all fun m => pegs.all fun b => cert m (List.replicate m b) fun t => hp t.reverse b) = true := by decide +kernel
/-- from one peg with the greatest disc alone on another one -/
def hq (t : Tw) : Nat := match t.reverse with
  | [] => 0
  | x :: l => if x = 1 then hp l 0 else
    let P := 2 ^ l.length - 1
    Nat.min (hp l (2 - x) + 1 + (if x = 2 then 0 else P)) (hp l 1 + 1 + P + 1 + (if x = 0 then 0 else P))
theorem cert_great : ((List.range 5).all fun m => cert (m + 1) (List.replicate m 0 ++ [1]) hq && decide (hq (List.replicate (m + 1) 0) = 2 ^ (m + 1) - 1)) = true := by decide +kernel
theorem hp_all : ((List.range 6).all fun m => decide (hp (List.replicate m 0).reverse 1 = 2 ^ m - 1)) = true := by decide +kernel
theorem rep_ok {m : Nat} {b : Int} (h0 : 0 ≤ b) (h1 : b < 3) : okT m (List.replicate m b) := ⟨by simp, fun x hx => by rw [(List.mem_replicate.mp hx).2]; exact ⟨h0, h1⟩⟩
theorem has_D {m : Nat} (hm : m ≤ 5) {s t : Tw} (hs : okT m s) (ht : okT m t) : ∃ d, isD s t d := by
  have c := List.all_eq_true.mp (List.all_eq_true.mp cert_peg m (List.mem_range.mpr (by omega))) 0 (by decide)
  have w1 := (cert_isD (rep_ok (by decide) (by decide)) c hs).1
  have w2 := (cert_isD (rep_ok (by decide) (by decide)) c ht).1
  exact has_least _ ((w1.symm (rep_ok (by decide) (by decide))).trans w2)
open Classical in
/-- the least number of moves -/
noncomputable def dst (s t : Tw) : Nat := if h : ∃ d, isD s t d then choose h else 0
theorem dst_isD {m : Nat} (hm : m ≤ 5) {s t : Tw} (hs : okT m s) (ht : okT m t) : isD s t (dst s t) := by
  have h := has_D hm hs ht
  unfold dst
  rw [dif_pos h]
  exact Classical.choose_spec h
theorem dst_eq {m : Nat} (hm : m ≤ 5) {s t : Tw} (hs : okT m s) (ht : okT m t) {d : Nat} (h : isD s t d) : dst s t = d := isD_uniq (dst_isD hm hs ht) h
theorem dst_symm {m : Nat} (hm : m ≤ 5) {s t : Tw} (hs : okT m s) (ht : okT m t) : dst s t = dst t s := dst_eq hm hs ht (isD_symm ht hs (dst_isD hm ht hs))
theorem dst_tri {m : Nat} (hm : m ≤ 5) {s t u : Tw} (hs : okT m s) (ht : okT m t) (hu : okT m u) : dst s u ≤ dst s t + dst t u := (dst_isD hm hs hu).2 _ ((dst_isD hm hs ht).1.trans (dst_isD hm ht hu).1)
theorem dst_zero {m : Nat} (hm : m ≤ 5) {s t : Tw} (hs : okT m s) (ht : okT m t) : dst s t = 0 ↔ s = t := by
  constructor
  · intro h
    have := (dst_isD hm hs ht).1
    rw [h] at this
    cases this
    rfl
  · rintro rfl
    exact dst_eq hm hs ht ⟨.zero, fun k _ => Nat.zero_le k⟩
theorem dst_near {m : Nat} (hm : m ≤ 5) {s t u : Tw} (hs : okT m s) (ht : okT m t) (hu : u ∈ nbL t) : dst s t ≤ dst s u + 1 := (dst_isD hm hs ht).2 _ (.step (dst_isD hm hs (nb_ok ht hu)).1 (nb_sym ht hu))
theorem dst_prev {m : Nat} (hm : m ≤ 5) {s t : Tw} (hs : okT m s) (ht : okT m t) (hne : s ≠ t) : ∃ u ∈ nbL t, dst s u + 1 = dst s t := by
  have h := (dst_isD hm hs ht).1
  generalize hd : dst s t = d at h
  cases h with
  | zero => exact absurd rfl hne
  | @step k _ u w hu =>
    have ho := w.ok hs
    have hu2 := nb_sym ho hu
    refine ⟨_, hu2, ?_⟩
    have h1 := (dst_isD hm hs ho).2 _ w
    have h2 := dst_near hm hs ht hu2
    omega
/-! ### other names, a disc more -/
structure Nm (ν : Int → Int) : Prop where
  inj : ∀ x y, 0 ≤ x → x < 3 → 0 ≤ y → y < 3 → ν x = ν y → x = y
  ok : ∀ x, 0 ≤ x → x < 3 → 0 ≤ ν x ∧ ν x < 3
theorem Nm.okT {ν : Int → Int} (N : Nm ν) {m : Nat} {t : Tw} (h : okT m t) : Pi.okT m (t.map ν) := ⟨by rw [List.length_map, h.1], fun x hx => by
  obtain ⟨y, hy, rfl⟩ := List.mem_map.mp hx
  exact N.ok y (h.2 y hy).1 (h.2 y hy).2⟩
theorem Nm.mem {ν : Int → Int} (N : Nm ν) {l : List Int} (hl : ∀ x ∈ l, 0 ≤ x ∧ x < 3) {o : Int} (h0 : 0 ≤ o) (h1 : o < 3) : ν o ∈ l.map ν ↔ o ∈ l := by
  constructor
  · intro h
    obtain ⟨y, hy, e⟩ := List.mem_map.mp h
    rw [← N.inj y o (hl y hy).1 (hl y hy).2 h0 h1 e]
    exact hy
  · intro h
    exact List.mem_map.mpr ⟨o, h, rfl⟩
theorem Nm.nb {ν : Int → Int} (N : Nm ν) {m : Nat} {t u : Tw} (h : Pi.okT m t) (hu : u ∈ nbL t) : u.map ν ∈ nbL (t.map ν) := by
  obtain ⟨d, o, h1, h2, h3, h4, h5, h6, rfl⟩ := nb_mem.mp hu
  have hg : (t.map ν).getD d 0 = ν (t.getD d 0) := by
    rw [List.getD_eq_getElem?_getD, List.getElem?_map, List.getElem?_eq_getElem h1, List.getD_eq_getElem?_getD, List.getElem?_eq_getElem h1]
    rfl
  have hp := h.2 _ (getD_mem h1)
  have ht : ∀ x ∈ t.take d, 0 ≤ x ∧ x < 3 := fun x hx => h.2 x (List.mem_of_mem_take hx)
  refine nb_mem.mpr ⟨d, ν o, by rw [List.length_map]; exact h1, (N.ok o h2 h3).1, (N.ok o h2 h3).2, ?_, ?_, ?_, ?_⟩
  · rw [hg, ← List.map_take, N.mem ht hp.1 hp.2]; exact h4
  · rw [hg]
    exact fun z => h5 (N.inj _ _ h2 h3 hp.1 hp.2 z)
  · rw [← List.map_take, N.mem ht h2 h3]; exact h6
  · unfold mv
    rw [List.map_append, List.map_append, List.map_take, List.map_drop]
    rfl
theorem Nm.W {ν : Int → Int} (N : Nm ν) {m : Nat} {s t : Tw} (h : Pi.okT m s) {k : Nat} (w : W s k t) : Pi.W (s.map ν) k (t.map ν) := by
  induction w with
  | zero => exact .zero
  | step w hu ih => exact .step ih (N.nb (w.ok h) hu)
theorem Nm.dst {ν μ : Int → Int} (N : Nm ν) (M : Nm μ) (hinv : ∀ x, 0 ≤ x → x < 3 → μ (ν x) = x) {m : Nat} (hm : m ≤ 5) {s t : Tw} (hs : Pi.okT m s) (ht : Pi.okT m t) : dst (s.map ν) (t.map ν) = Pi.dst s t := by
  have h := dst_isD hm hs ht
  have back : ∀ {u : Tw}, Pi.okT m u → (u.map ν).map μ = u := fun {u} hu => by
    rw [List.map_map]
    conv => rhs; rw [← List.map_id u]
    exact List.map_congr_left fun x hx => hinv x (hu.2 x hx).1 (hu.2 x hx).2
  refine dst_eq hm (N.okT hs) (N.okT ht) ⟨N.W hs h.1, fun k w => h.2 k ?_⟩
  have := M.W (N.okT hs) w
  rw [back hs, back ht] at this
  exact this
theorem ext_nb {t u : Tw} {p : Int} (hu : u ∈ nbL t) : u ++ [p] ∈ nbL (t ++ [p]) := by
  obtain ⟨d, o, h1, h2, h3, h4, h5, h6, rfl⟩ := nb_mem.mp hu
  have ht : (t ++ [p]).take d = t.take d := List.take_append_of_le_length (by omega)
  have hg : (t ++ [p]).getD d 0 = t.getD d 0 := by
    rw [List.getD_eq_getElem?_getD, List.getElem?_append_left h1, List.getD_eq_getElem?_getD]
  refine nb_mem.mpr ⟨d, o, by simp; omega, h2, h3, by rw [hg, ht]; exact h4, by rw [hg]; exact h5, by rw [ht]; exact h6, ?_⟩
  unfold mv
  rw [ht, List.drop_append_of_le_length (by omega), List.append_assoc]
theorem proj_nb {t u : Tw} {p : Int} (hu : u ∈ nbL (t ++ [p])) : ∃ v q, u = v ++ [q] ∧ (v = t ∨ v ∈ nbL t) := by
  obtain ⟨d, o, h1, h2, h3, h4, h5, h6, rfl⟩ := nb_mem.mp hu
  rw [List.length_append, List.length_singleton] at h1
  by_cases e : d < t.length
  · have ht : (t ++ [p]).take d = t.take d := List.take_append_of_le_length (by omega)
    have hg : (t ++ [p]).getD d 0 = t.getD d 0 := by
      rw [List.getD_eq_getElem?_getD, List.getElem?_append_left e, List.getD_eq_getElem?_getD]
    refine ⟨mv t d o, p, ?_, .inr (nb_mem.mpr ⟨d, o, e, h2, h3, by rw [← hg, ← ht]; exact h4, by rw [← hg]; exact h5, by rw [← ht]; exact h6, rfl⟩)⟩
    unfold mv
    rw [ht, List.drop_append_of_le_length (by omega)]
    simp
  · have e : d = t.length := by omega
    subst e
    refine ⟨t, o, ?_, .inl rfl⟩
    unfold mv
    rw [List.take_left', List.drop_of_length_le (by simp), List.append_nil]
    rfl
theorem proj_W {s t : Tw} {p q : Int} {k : Nat} (w : W (s ++ [p]) k (t ++ [q])) : ∃ j, j ≤ k ∧ W s j t := by
  have key : ∀ {k : Nat} {u : Tw}, W (s ++ [p]) k u → ∃ v r j, u = v ++ [r] ∧ j ≤ k ∧ W s j v := by
    intro k u w
    induction w with
    | zero => exact ⟨s, p, 0, rfl, Nat.le_refl _, .zero⟩
    | @step k t u w hu ih =>
      obtain ⟨v, r, j, rfl, hj, wv⟩ := ih
      obtain ⟨v', r', rfl, h⟩ := proj_nb hu
      rcases h with rfl | h
      · exact ⟨v', r', j, rfl, by omega, wv⟩
      · exact ⟨v', r', j + 1, rfl, by omega, .step wv h⟩
  obtain ⟨v, r, j, e, hj, wv⟩ := key w
  have := List.append_inj' e rfl
  rw [this.1]
  exact ⟨j, hj, wv⟩
theorem ext_W {s t : Tw} {p : Int} {k : Nat} (w : W s k t) : W (s ++ [p]) k (t ++ [p]) := by
  induction w with
  | zero => exact .zero
  | step w hu ih => exact .step ih (ext_nb hu)
theorem ext_ok {m : Nat} {t : Tw} {p : Int} (h : okT m t) (h0 : 0 ≤ p) (h1 : p < 3) : okT (m + 1) (t ++ [p]) := ⟨by simp [h.1], fun x hx => by
  rcases List.mem_append.mp hx with hx | hx
  · exact h.2 x hx
  · rw [List.mem_singleton.mp hx]; exact ⟨h0, h1⟩⟩
theorem dst_ext {m : Nat} (hm : m + 1 ≤ 5) {s t : Tw} {p : Int} (hs : okT m s) (ht : okT m t) (h0 : 0 ≤ p) (h1 : p < 3) : dst (s ++ [p]) (t ++ [p]) = dst s t := by
  have h := dst_isD (by omega) hs ht
  refine dst_eq hm (ext_ok hs h0 h1) (ext_ok ht h0 h1) ⟨ext_W h.1, fun k w => ?_⟩
  obtain ⟨j, hj, w'⟩ := proj_W w
  exact Nat.le_trans (h.2 j w') hj
/-! ### all of one peg -/
theorem dst_peg {m : Nat} (hm : m ≤ 5) : dst (List.replicate m 0) (List.replicate m 1) = 2 ^ m - 1 := by
  have c := List.all_eq_true.mp (List.all_eq_true.mp cert_peg m (List.mem_range.mpr (by omega))) 1 (by decide)
  have h := cert_isD (rep_ok (by decide) (by decide)) c (t := List.replicate m 0) (rep_ok (by decide) (by decide))
  have e := of_decide_eq_true (List.all_eq_true.mp hp_all m (List.mem_range.mpr (by omega)))
  rw [e] at h
  exact dst_eq hm (rep_ok (by decide) (by decide)) (rep_ok (by decide) (by decide)) (isD_symm (m := m) (rep_ok (by decide) (by decide)) (rep_ok (by decide) (by decide)) h)
theorem dst_great {m : Nat} (hm : m + 1 ≤ 5) : dst (List.replicate m 0 ++ [0]) (List.replicate m 0 ++ [1]) = 2 ^ (m + 1) - 1 := by
  have c := List.all_eq_true.mp cert_great m (List.mem_range.mpr (by omega))
  rw [Bool.and_eq_true, decide_eq_true_iff] at c
  have o1 : okT (m + 1) (List.replicate m 0 ++ [1]) := ext_ok (rep_ok (by decide) (by decide)) (by decide) (by decide)
  have o0 : okT (m + 1) (List.replicate m 0 ++ [0]) := ext_ok (rep_ok (by decide) (by decide)) (by decide) (by decide)
  have h := cert_isD o1 c.1 o0
  rw [show List.replicate m (0 : Int) ++ [0] = List.replicate (m + 1) 0 from List.replicate_succ'.symm, c.2] at h
  have := dst_eq hm o0 o1 (by
    rw [show List.replicate m (0 : Int) ++ [0] = List.replicate (m + 1) 0 from List.replicate_succ'.symm] at o0 ⊢
    exact isD_symm o1 o0 h)
  exact this
end Pi

/-! k47: words (plain). -/
namespace Pi
def gyd (x p : Nat) : Nat := (x / 2 ^ p + x / 2 ^ (p + 1)) % 2
def gw (n x : Nat) : List Int := (List.range n).map fun p => (gyd x p : Int)
def gwN (n x : Nat) : List Nat := (List.range n).map (gyd x)
theorem gw_len (n x : Nat) : (gw n x).length = n := by unfold gw; rw [List.length_map, List.length_range]
theorem gw_N (n x : Nat) : gw n x = (gwN n x).map fun k : Nat => (k : Int) := by unfold gw gwN; rw [List.map_map]; rfl
theorem gw_get {n x p : Nat} (h : p < n) : (gw n x).getD p 0 = (gyd x p : Int) := by
  unfold gw
  rw [List.getD_eq_getElem?_getD, List.getElem?_map, List.getElem?_range h]
  rfl
/-- put together without carries -/
def XR (a b : Nat) : Nat → Nat
  | 0 => 0
  | k + 1 => XR a b k + 2 ^ k * ((a / 2 ^ k + b / 2 ^ k) % 2)
theorem XR_lt (a b : Nat) : ∀ k, XR a b k < 2 ^ k
  | 0 => by show (0:Nat) < 1; decide
  | k + 1 => by
    have := XR_lt a b k
    have hm : (a / 2 ^ k + b / 2 ^ k) % 2 < 2 := Nat.mod_lt _ (by decide)
    rw [XR, Nat.pow_succ]
    have : 2 ^ k * ((a / 2 ^ k + b / 2 ^ k) % 2) ≤ 2 ^ k * 1 := Nat.mul_le_mul_left _ (by omega)
    omega
theorem XR_dig (a b : Nat) : ∀ {j k : Nat}, k < j → XR a b j / 2 ^ k % 2 = (a / 2 ^ k + b / 2 ^ k) % 2
  | 0, k, h => by omega
  | j + 1, k, h => by
    rw [XR]
    by_cases e : k = j
    · subst e
      rw [Nat.add_mul_div_left _ _ (Nat.two_pow_pos k), Nat.div_eq_of_lt (XR_lt a b k)]
      omega
    · have hk : k < j := by omega
      obtain ⟨d, rfl⟩ : ∃ d, j = k + (d + 1) := ⟨j - k - 1, by omega⟩
      rw [Nat.pow_add, Nat.mul_assoc, Nat.add_mul_div_left _ _ (Nat.two_pow_pos k), Nat.pow_succ, Nat.mul_comm (2 ^ d) 2, Nat.mul_assoc, Nat.add_mul_mod_self_left]
      exact XR_dig a b hk
theorem XR_up {a b n : Nat} (ha : a < 2 ^ n) (hb : b < 2 ^ n) : ∀ d, XR a b (n + d) = XR a b n
  | 0 => rfl
  | d + 1 => by
    rw [← Nat.add_assoc, XR, XR_up ha hb d]
    have h2 : 2 ^ n ≤ 2 ^ (n + d) := Nat.pow_le_pow_right (by decide) (by omega)
    rw [Nat.div_eq_of_lt (by omega), Nat.div_eq_of_lt (by omega)]
    rfl
def xr (a b : Nat) : Nat := XR a b 10
theorem xr_lt {a b n : Nat} (hn : n ≤ 10) (ha : a < 2 ^ n) (hb : b < 2 ^ n) : xr a b < 2 ^ n := by
  unfold xr
  have := XR_up ha hb (10 - n)
  rw [show n + (10 - n) = 10 by omega] at this
  rw [this]
  exact XR_lt a b n
theorem gyd_xr {a b p : Nat} (hp : p < 9) : gyd (xr a b) p = (gyd a p + gyd b p) % 2 := by
  unfold gyd xr
  have h1 := XR_dig a b (j := 10) (k := p) (by omega)
  have h2 := XR_dig a b (j := 10) (k := p + 1) (by omega)
  generalize XR a b 10 / 2 ^ p = u at h1 ⊢
  generalize XR a b 10 / 2 ^ (p + 1) = v at h2 ⊢
  omega
theorem gyd_step {x q : Nat} : (x / 2 ^ (q + 1) % 2 + gyd x q) % 2 = x / 2 ^ q % 2 ∧ 2 * (x / 2 ^ (q + 1)) + x / 2 ^ q % 2 = x / 2 ^ q := by
  unfold gyd
  have e : x / 2 ^ (q + 1) = x / 2 ^ q / 2 := by rw [Nat.pow_succ, Nat.div_div_eq_div_mul]
  rw [e]
  omega
theorem gw_more {n x : Nat} (h : x < 2 ^ n) : gw (n + 1) x = gw n x ++ [0] := by
  unfold gw
  rw [List.range_succ, List.map_append]
  have : gyd x n = 0 := by
    unfold gyd
    rw [Nat.div_eq_of_lt h, Nat.div_eq_of_lt (by rw [Nat.pow_succ]; omega)]
  simp [this]
theorem gray_all : ((List.range 10).all fun n => (List.range (2 ^ n)).all fun x => decide (gwN (n + 1) (2 ^ (n + 1) - 1 - x) = gwN n x ++ [1]) && (n == 0 || decide (((List.range n).filter fun k => !decide (gyd x k = gyd ((x + 1) % 2 ^ n) k)).length = 1))) = true := by decide +kernel
theorem gw_back {n x : Nat} (hn : n ≤ 9) (h : x < 2 ^ n) : gw (n + 1) (2 ^ (n + 1) - 1 - x) = gw n x ++ [1] := by
  have q := List.all_eq_true.mp (List.all_eq_true.mp gray_all n (List.mem_range.mpr (by omega))) x (List.mem_range.mpr h)
  rw [Bool.and_eq_true, decide_eq_true_eq] at q
  rw [gw_N, q.1, List.map_append, ← gw_N]
  rfl
theorem gw_next {n x : Nat} (h1 : 1 ≤ n) (hn : n ≤ 9) (h : x < 2 ^ n) : ((List.range n).filter fun k => !decide (gyd x k = gyd ((x + 1) % 2 ^ n) k)).length = 1 := by
  have q := List.all_eq_true.mp (List.all_eq_true.mp gray_all n (List.mem_range.mpr (by omega))) x (List.mem_range.mpr h)
  rw [Bool.and_eq_true, Bool.or_eq_true, decide_eq_true_eq] at q
  rcases q.2 with z | z
  · simp at z; omega
  · exact of_decide_eq_true z
end Pi

namespace Pi
open PySem PySem.Spec PyProof.Rows L2
def topS (i : Nat) : Stmt := PySem.Challenge.pw_choicesjoined_k47_whole_digits_and_tower.main.body.getD i (.Pass ⟨0, 0, 0, 0⟩)
abbrev s_gray_word : Stmt := topS 1
abbrev N_gray_word : List Str := ["n", "k", "mixed", "place"]
abbrev B_gray_word : List Str := ["tuple", "range"]
theorem sc_gray_word : FnScope N_gray_word ["n", "k"] (defScope s_gray_word) := ⟨rfl, rfl, rfl, by decide +kernel, rfl, by decide +kernel, by decide +kernel⟩
abbrev s_gray_place : Stmt := topS 2
abbrev N_gray_place : List Str := ["word", "total", "part", "digit"]
abbrev B_gray_place : List Str := ["reversed"]
theorem sc_gray_place : FnScope N_gray_place ["word"] (defScope s_gray_place) := ⟨rfl, rfl, rfl, by decide +kernel, rfl, by decide +kernel, by decide +kernel⟩
abbrev s_next_towers : Stmt := topS 3
abbrev N_next_towers : List Str := ["tower", "found", "disc", "peg", "other"]
abbrev B_next_towers : List Str := ["enumerate", "range", "sorted"]
theorem sc_next_towers : FnScope N_next_towers ["tower"] (defScope s_next_towers) := ⟨rfl, rfl, rfl, by decide +kernel, rfl, by decide +kernel, by decide +kernel⟩
abbrev s_tower_steps : Stmt := topS 4
abbrev N_tower_steps : List Str := ["goal", "counts", "line", "at", "other"]
abbrev B_tower_steps : List Str := ["len"]
theorem sc_tower_steps : FnScope N_tower_steps ["goal"] (defScope s_tower_steps) := ⟨rfl, rfl, rfl, by decide +kernel, rfl, by decide +kernel, by decide +kernel⟩
abbrev s_tower_moves : Stmt := topS 5
abbrev N_tower_moves : List Str := ["first", "second"]
abbrev B_tower_moves : List Str := []
theorem sc_tower_moves : FnScope N_tower_moves ["first", "second"] (defScope s_tower_moves) := ⟨rfl, rfl, rfl, by decide +kernel, rfl, by decide +kernel, by decide +kernel⟩
abbrev s_first_move : Stmt := topS 6
abbrev N_first_move : List Str := ["first", "second", "counts", "other"]
abbrev B_first_move : List Str := []
theorem sc_first_move : FnScope N_first_move ["first", "second"] (defScope s_first_move) := ⟨rfl, rfl, rfl, by decide +kernel, rfl, by decide +kernel, by decide +kernel⟩
abbrev s_law_mixed : Stmt := topS 8
abbrev N_law_mixed : List Str := ["script", "k", "cell", "first", "second", "third"]
abbrev B_law_mixed : List Str := ["len", "int"]
theorem sc_law_mixed : FnScope N_law_mixed ["script", "k"] (defScope s_law_mixed) := ⟨rfl, rfl, rfl, by decide +kernel, rfl, by decide +kernel, by decide +kernel⟩
abbrev s_law_row : Stmt := topS 9
abbrev N_law_row : List Str := ["script", "many", "big", "row", "k"]
abbrev B_law_row : List Str := ["len", "range", "int"]
theorem sc_law_row : FnScope N_law_row ["script", "many"] (defScope s_law_row) := ⟨rfl, rfl, rfl, by decide +kernel, rfl, by decide +kernel, by decide +kernel⟩
abbrev s_law_is_int : Stmt := topS 10
abbrev N_law_is_int : List Str := ["value"]
abbrev B_law_is_int : List Str := ["isinstance", "int", "bool"]
theorem sc_law_is_int : FnScope N_law_is_int ["value"] (defScope s_law_is_int) := ⟨rfl, rfl, rfl, by decide +kernel, rfl, by decide +kernel, by decide +kernel⟩
abbrev s_law_like : Stmt := topS 11
abbrev N_law_like : List Str := ["value", "due", "k"]
abbrev B_law_like : List Str := ["isinstance", "bool", "tuple", "len", "all", "range", "str"]
theorem sc_law_like : FnScope N_law_like ["value", "due"] (defScope s_law_like) := ⟨rfl, rfl, rfl, by decide +kernel, rfl, by decide +kernel, by decide +kernel⟩
abbrev s_law_xor : Stmt := topS 12
abbrev N_law_xor : List Str := ["one", "other", "total", "k", "turn"]
abbrev B_law_xor : List Str := ["range", "int"]
theorem sc_law_xor : FnScope N_law_xor ["one", "other"] (defScope s_law_xor) := ⟨rfl, rfl, rfl, by decide +kernel, rfl, by decide +kernel, by decide +kernel⟩
abbrev s_law_words_right : Stmt := topS 13
abbrev N_law_words_right : List Str := ["n", "one", "other", "whole", "first", "second", "due", "k", "both", "later"]
abbrev B_law_words_right : List Str := ["tuple", "range", "int", "isinstance", "len"]
theorem sc_law_words_right : FnScope N_law_words_right ["n", "one", "other"] (defScope s_law_words_right) := ⟨rfl, rfl, rfl, by decide +kernel, rfl, by decide +kernel, by decide +kernel⟩
abbrev s_law_near : Stmt := topS 14
abbrev N_law_near : List Str := ["tower", "found", "k", "peg"]
abbrev B_law_near : List Str := ["range", "len", "sorted"]
theorem sc_law_near : FnScope N_law_near ["tower"] (defScope s_law_near) := ⟨rfl, rfl, rfl, by decide +kernel, rfl, by decide +kernel, by decide +kernel⟩
abbrev s_law_moves : Stmt := topS 15
abbrev N_law_moves : List Str := ["one", "other", "near", "met", "moves", "turn", "later", "tower", "new"]
abbrev B_law_moves : List Str := ["range", "len"]
theorem sc_law_moves : FnScope N_law_moves ["one", "other"] (defScope s_law_moves) := ⟨rfl, rfl, rfl, by decide +kernel, rfl, by decide +kernel, by decide +kernel⟩
abbrev s_law_towers_right : Stmt := topS 16
abbrev N_law_towers_right : List Str := ["one", "other", "third", "names", "many", "renamed", "tower", "peg", "told", "due"]
abbrev B_law_towers_right : List Str := ["len", "tuple"]
theorem sc_law_towers_right : FnScope N_law_towers_right ["one", "other", "third", "names"] (defScope s_law_towers_right) := ⟨rfl, rfl, rfl, by decide +kernel, rfl, by decide +kernel, by decide +kernel⟩
abbrev s_law : Stmt := topS 17
abbrev N_law : List Str := ["script", "row", "n", "m", "towers", "at", "k", "names", "start", "goal"]
abbrev B_law : List Str := ["int", "tuple", "range"]
theorem sc_law : FnScope N_law ["script"] (defScope s_law) := ⟨rfl, rfl, rfl, by decide +kernel, rfl, by decide +kernel, by decide +kernel⟩
def b_gray_word  : Cst :=
  (cSeq (cAsgF 2 (cBin Operator.BitXor (cVarB 1) (cBin Operator.RShift (cVarB 1) (cK (PV.int 1)))))
    (cRet
      (cApp (g1 tupleV)
        [cComp [3] (gN 3) (itRg [cVarB 0]) cYes
            (cBin Operator.BitAnd (cBin Operator.RShift (cVarB 2) (cVarB 3)) (cK (PV.int 1)))])))
theorem hb_gray_word  : bodyOf N_gray_word s_gray_word B_gray_word [] = some (b_gray_word ) := by kernel_rfl
def b_gray_place  : Cst :=
  (cSeq (cRow [1, 2] [false, false] [cK (PV.int 0), cK (PV.int 0)])
    (cSeq
      (cForS (itRv (cVar 0)) (gN 3)
        (cSeq (cAsgF 2 (cBin Operator.BitXor (cVarB 2) (cVarB 3)))
          (cAsgF 1 (cBin Operator.Add (cBin Operator.Mult (cK (PV.int 2)) (cVarB 1)) (cVarB 2)))))
      (cRet (cVarB 1))))
theorem hb_gray_place  : bodyOf N_gray_place s_gray_place B_gray_place [] = some (b_gray_place ) := by kernel_rfl
def b_next_towers  : Cst :=
  (cSeq (cAsgF 1 (cLst []))
    (cSeq
      (cForS (itEn (cVar 0)) (gT (gsC (gN 2) (gsC (gN 3) gsN)))
        (cIfS (cCmpT CmpOp.NotIn (cVarB 3) (cSl (cVarB 0) none (some (cVarB 2))))
          (cForS (itRg [cK (PV.int 3)]) (gN 4)
            (cIfS
              (cAndT (cCmpT CmpOp.NotEq (cVarB 4) (cVarB 3))
                (cCmpT CmpOp.NotIn (cVarB 4) (cSl (cVarB 0) none (some (cVarB 2)))))
              (cAppend 1
                (cBin Operator.Add (cBin Operator.Add (cSl (cVarB 0) none (some (cVarB 2))) (cTup [cVar 4]))
                  (cSl (cVarB 0) (some (cBin Operator.Add (cVarB 2) (cK (PV.int 1)))) none)))
              cSkip))
          cSkip))
      (cRet (cApp (g1 sortedV) [cVarB 1]))))
theorem hb_next_towers  : bodyOf N_next_towers s_next_towers B_next_towers [] = some (b_next_towers ) := by kernel_rfl
def b_tower_steps (g_next_towers : List PV → Option PV) : Cst :=
  (cSeq (cAsgF 1 (cDict1 (cVar 0) (cK (PV.int 0))))
      (cSeq (cAsgF 2 (cLst [cVar 0]))
        (cSeq (cAsgV 3 (cK (PV.int 0)))
          (cSeq
            (cWhile (cCmpT CmpOp.Lt (cVarB 3) (cApp (g1 fun p => Option.map PV.int (lenV p)) [cVarB 2]))
              (cSeq
                (cForS (itOf (cApp g_next_towers [cIx (cVarB 2) (cVarB 3)])) (gN 4)
                  (cIfS (cCmpT CmpOp.NotIn (cVarB 4) (cVarB 1))
                    (cSeq
                      (cTgA (cSubL 1 (cVarB 4))
                        (cBin Operator.Add (cIx (cVarB 1) (cIx (cVarB 2) (cVarB 3))) (cK (PV.int 1))))
                      (cAppend 2 (cVar 4)))
                    cSkip))
                (cAug 3 Operator.Add (cK (PV.int 1))))
              WF)
            (cRet (cVarB 1))))))
theorem hb_tower_steps (g_next_towers : List PV → Option PV) : bodyOf N_tower_steps s_tower_steps B_tower_steps [("next_towers", g_next_towers)] = some (b_tower_steps g_next_towers) := by kernel_rfl
def b_tower_moves (g_tower_steps : List PV → Option PV) : Cst :=
  (cRet (cIx (cApp g_tower_steps [cVar 1]) (cVarB 0)))
theorem hb_tower_moves (g_tower_steps : List PV → Option PV) : bodyOf N_tower_moves s_tower_moves B_tower_moves [("tower_steps", g_tower_steps)] = some (b_tower_moves g_tower_steps) := by kernel_rfl
def b_first_move (g_tower_steps : List PV → Option PV) (g_next_towers : List PV → Option PV) : Cst :=
  (cSeq (cIfS (cCmpT CmpOp.Eq (cVarB 0) (cVarB 1)) (cRet (cK PV.non)) cSkip)
      (cSeq (cAsgV 2 (cApp g_tower_steps [cVar 1]))
        (cRet
          (cIx
            (cComp [3] (gN 3) (itOf (cApp g_next_towers [cVar 0]))
              (cCmpT CmpOp.Lt (cIx (cVarB 2) (cVarB 3)) (cIx (cVarB 2) (cVarB 0))) (cVar 3))
            (cK (PV.int 0))))))
theorem hb_first_move (g_tower_steps : List PV → Option PV) (g_next_towers : List PV → Option PV) : bodyOf N_first_move s_first_move B_first_move [("tower_steps", g_tower_steps), ("next_towers", g_next_towers)] = some (b_first_move g_tower_steps g_next_towers) := by kernel_rfl
theorem hb_law_mixed  : bodyOf N_law_mixed s_law_mixed B_law_mixed [] = some (bMixed ) := by kernel_rfl
theorem hb_law_row (g_law_mixed : List PV → Option PV) : bodyOf N_law_row s_law_row B_law_row [("_law_mixed", g_law_mixed)] = some (bRow g_law_mixed) := by kernel_rfl
theorem hb_law_is_int  : bodyOf N_law_is_int s_law_is_int B_law_is_int [] = some (bIsInt ) := by kernel_rfl
theorem hb_law_like (g_law_like : List PV → Option PV) (g_law_is_int : List PV → Option PV) : bodyOf N_law_like s_law_like B_law_like [("_law_like", g_law_like), ("_law_is_int", g_law_is_int)] = some (bLike g_law_like g_law_is_int) := by kernel_rfl
def b_law_xor  : Cst :=
  (cSeq (cRow [2, 3] [false, false] [cK (PV.int 0), cK (PV.int 1)])
    (cSeq
      (cForS (itRg [cK (PV.int 10)]) (gN 4)
        (cSeq
          (cAsgF 2
            (cBin Operator.Add (cVarB 2)
              (cBin Operator.Mult (cVarB 3)
                (cBin Operator.Mod
                  (cApp (g1 intV)
                    [cBin Operator.Add (cBin Operator.FloorDiv (cVarB 0) (cVarB 3))
                        (cBin Operator.FloorDiv (cVarB 1) (cVarB 3))])
                  (cK (PV.int 2))))))
          (cAsgF 3 (cBin Operator.Mult (cK (PV.int 2)) (cVarB 3)))))
      (cRet (cVarB 2))))
theorem hb_law_xor  : bodyOf N_law_xor s_law_xor B_law_xor [] = some (b_law_xor ) := by kernel_rfl
def b_law_words_right (g_gray_word : List PV → Option PV) (g_law_like : List PV → Option PV) (g_law_xor : List PV → Option PV) (g_gray_place : List PV → Option PV) : Cst :=
  (cSeq (cAsgF 3 (cBin Operator.LShift (cK (PV.int 1)) (cVarB 0)))
      (cSeq (cRow [4, 5] [false, false] [cApp g_gray_word [cVar 0, cVar 1], cApp g_gray_word [cVar 0, cVar 2]])
        (cSeq
          (cAsgV 6
            (cApp (g1 tupleV)
              [cComp [7] (gN 7) (itRg [cVarB 0]) cYes
                  (cBin Operator.Mod
                    (cApp (g1 intV)
                      [cBin Operator.Add
                          (cBin Operator.FloorDiv (cVarB 1) (cBin Operator.LShift (cK (PV.int 1)) (cVarB 7)))
                          (cBin Operator.FloorDiv (cVarB 1) (cBin Operator.LShift (cK (PV.int 2)) (cVarB 7)))])
                    (cK (PV.int 2)))]))
          (cSeq (cIfS (cNotT (cTst (cApp g_law_like [cVar 4, cVar 6]))) (cRet (cK (PV.bl false))) cSkip)
            (cSeq
              (cIfS
                (cOrT (cNotT (cTst (cIsi Ty.tuple (cVarB 4))))
                  (cOrT (cNotT (cTst (cIsi Ty.tuple (cVarB 5))))
                    (cOrT (cCmpT CmpOp.NotEq (cApp (g1 fun p => Option.map PV.int (lenV p)) [cVarB 4]) (cVarB 0))
                      (cCmpT CmpOp.NotEq (cApp (g1 fun p => Option.map PV.int (lenV p)) [cVarB 5]) (cVarB 0)))))
                (cRet (cK (PV.bl false))) cSkip)
              (cSeq
                (cAsgV 8
                  (cApp (g1 tupleV)
                    [cComp [7] (gN 7) (itRg [cVarB 0]) cYes
                        (cBin Operator.Mod
                          (cApp (g1 intV) [cBin Operator.Add (cIx (cVarB 4) (cVarB 7)) (cIx (cVarB 5) (cVarB 7))])
                          (cK (PV.int 2)))]))
                (cSeq
                  (cIfS
                    (cNotT
                      (cTst (cApp g_law_like [cApp g_gray_word [cVar 0, cApp g_law_xor [cVar 1, cVar 2]], cVar 8])))
                    (cRet (cK (PV.bl false))) cSkip)
                  (cSeq
                    (cIfS
                      (cNotT
                        (cTst
                          (cApp g_law_like
                            [cTup [cApp g_gray_place [cVar 4], cApp g_gray_place [cVar 8]],
                              cTup [cVar 1, cApp g_law_xor [cVar 1, cVar 2]]])))
                      (cRet (cK (PV.bl false))) cSkip)
                    (cSeq
                      (cIfS
                        (cNotT
                          (cTst
                            (cApp g_law_like
                              [cApp g_gray_word [cBin Operator.Add (cVarB 0) (cK (PV.int 1)), cVar 1],
                                cBin Operator.Add (cVarB 4) (cTup [cK (PV.int 0)])])))
                        (cRet (cK (PV.bl false))) cSkip)
                      (cSeq
                        (cIfS
                          (cNotT
                            (cTst
                              (cApp g_law_like
                                [cApp g_gray_word
                                    [cBin Operator.Add (cVarB 0) (cK (PV.int 1)),
                                      cBin Operator.Sub
                                        (cBin Operator.Sub (cBin Operator.Mult (cK (PV.int 2)) (cVarB 3))
                                          (cK (PV.int 1)))
                                        (cVarB 1)],
                                  cBin Operator.Add (cVarB 4) (cTup [cK (PV.int 1)])])))
                          (cRet (cK (PV.bl false))) cSkip)
                        (cSeq
                          (cAsgV 9
                            (cApp g_gray_word
                              [cVar 0,
                                cBin Operator.Mod (cApp (g1 intV) [cBin Operator.Add (cVarB 1) (cK (PV.int 1))])
                                  (cVarB 3)]))
                          (cRet
                            (cOrV
                              (cCmp CmpOp.Eq
                                (cApp (g1 fun p => Option.map PV.int (lenV p))
                                  [cComp [7] (gN 7) (itRg [cVarB 0])
                                      (cCmpT CmpOp.NotEq (cIx (cVarB 4) (cVarB 7)) (cIx (cVarB 9) (cVarB 7))) (cVar 7)])
                                (cK (PV.int 1)))
                              (cAndV (cCmp CmpOp.Eq (cVarB 0) (cK (PV.int 1)))
                                (cCmp CmpOp.NotEq (cVarB 9) (cVarB 4))))))))))))))))
theorem hb_law_words_right (g_gray_word : List PV → Option PV) (g_law_like : List PV → Option PV) (g_law_xor : List PV → Option PV) (g_gray_place : List PV → Option PV) : bodyOf N_law_words_right s_law_words_right B_law_words_right [("gray_word", g_gray_word), ("_law_like", g_law_like), ("_law_xor", g_law_xor), ("gray_place", g_gray_place)] = some (b_law_words_right g_gray_word g_law_like g_law_xor g_gray_place) := by kernel_rfl
def b_law_near  : Cst :=
  (cSeq (cAsgF 1 (cLst []))
    (cSeq
      (cForS (itRg [cApp (g1 fun p => Option.map PV.int (lenV p)) [cVarB 0]]) (gN 2)
        (cForS (itRg [cK (PV.int 3)]) (gN 3)
          (cIfS
            (cAndT (cCmpT CmpOp.NotEq (cVarB 3) (cIx (cVarB 0) (cVarB 2)))
              (cAndT (cCmpT CmpOp.NotIn (cIx (cVarB 0) (cVarB 2)) (cSl (cVarB 0) none (some (cVarB 2))))
                (cCmpT CmpOp.NotIn (cVarB 3) (cSl (cVarB 0) none (some (cVarB 2))))))
            (cAppend 1
              (cBin Operator.Add (cBin Operator.Add (cSl (cVarB 0) none (some (cVarB 2))) (cTup [cVar 3]))
                (cSl (cVarB 0) (some (cBin Operator.Add (cVarB 2) (cK (PV.int 1)))) none)))
            cSkip)))
      (cRet (cApp (g1 sortedV) [cVarB 1]))))
theorem hb_law_near  : bodyOf N_law_near s_law_near B_law_near [] = some (b_law_near ) := by kernel_rfl
def b_law_moves (g_law_near : List PV → Option PV) : Cst :=
  (cSeq (cRow [2, 3, 4] [true, true, false] [cLst [cVar 0], cLst [cVar 0], cK (PV.int 0)])
      (cSeq
        (cForS (itRg [cBin Operator.LShift (cK (PV.int 1)) (cApp (g1 fun p => Option.map PV.int (lenV p)) [cVarB 0])])
          (gN 5)
          (cIfS (cCmpT CmpOp.NotIn (cVarB 1) (cVarB 2))
            (cSeq (cAsgF 6 (cLst []))
              (cSeq
                (cFz [2]
                  (cForS (itOf (cVar 2)) (gN 7)
                    (cExtend 6
                      (cComp [8] (gN 8) (itOf (cApp g_law_near [cVar 7]))
                        (cAndT (cCmpT CmpOp.NotIn (cVarB 8) (cVarB 3)) (cCmpT CmpOp.NotIn (cVarB 8) (cVarB 6)))
                        (cVar 8)))))
                (cFz [6]
                  (cRow [2, 3, 4] [false, true, true]
                    [cVar 6, cBin Operator.Add (cVarB 3) (cVarB 6), cBin Operator.Add (cVarB 4) (cK (PV.int 1))]))))
            cSkip))
        (cRet (cVarB 4))))
theorem hb_law_moves (g_law_near : List PV → Option PV) : bodyOf N_law_moves s_law_moves B_law_moves [("_law_near", g_law_near)] = some (b_law_moves g_law_near) := by kernel_rfl
def b_law_towers_right (g_tower_moves : List PV → Option PV) (g_law_is_int : List PV → Option PV) (g_law_like : List PV → Option PV) (g_law_moves : List PV → Option PV) (g_first_move : List PV → Option PV) (g_law_near : List PV → Option PV) : Cst :=
  (cSeq (cAsgV 4 (cApp g_tower_moves [cVar 0, cVar 1]))
      (cSeq
        (cIfS
          (cOrT (cNotT (cTst (cApp g_law_is_int [cVar 4])))
            (cOrT (cCmpT CmpOp.NotEq (cCmp CmpOp.Eq (cVarB 4) (cK (PV.int 0))) (cCmp CmpOp.Eq (cVarB 0) (cVarB 1)))
              (cNotT (cTst (cApp g_law_like [cApp g_tower_moves [cVar 1, cVar 0], cVar 4])))))
          (cRet (cK (PV.bl false))) cSkip)
        (cSeq
          (cIfS
            (cAndT (cCmpT CmpOp.Lt (cApp (g1 fun p => Option.map PV.int (lenV p)) [cVarB 0]) (cK (PV.int 4)))
              (cNotT (cTst (cApp g_law_like [cVar 4, cApp g_law_moves [cVar 0, cVar 1]]))))
            (cRet (cK (PV.bl false))) cSkip)
          (cSeq
            (cAsgF 5
              (cComp [6] (gN 6) (itOf (cTup [cVar 0, cVar 1])) cYes
                (cApp (g1 tupleV) [cComp [7] (gN 7) (itOf (cVarB 6)) cYes (cIx (cVarB 3) (cVarB 7))])))
            (cSeq
              (cIfS
                (cNotT
                  (cTst
                    (cApp g_law_like
                      [cApp g_tower_moves [cIx (cVarB 5) (cK (PV.int 0)), cIx (cVarB 5) (cK (PV.int 1))], cVar 4])))
                (cRet (cK (PV.bl false))) cSkip)
              (cSeq
                (cIfS
                  (cCmpT CmpOp.Lt
                    (cBin Operator.Add (cApp g_tower_moves [cVar 0, cVar 2]) (cApp g_tower_moves [cVar 2, cVar 1]))
                    (cVarB 4))
                  (cRet (cK (PV.bl false))) cSkip)
                (cSeq
                  (cIfS
                    (cAndT (cCmpT CmpOp.Lt (cApp (g1 fun p => Option.map PV.int (lenV p)) [cVarB 0]) (cK (PV.int 5)))
                      (cNotT
                        (cTst
                          (cApp g_law_like
                            [cApp g_tower_moves
                                [cBin Operator.Add (cVarB 0) (cTup [cIx (cVarB 3) (cK (PV.int 0))]),
                                  cBin Operator.Add (cVarB 1) (cTup [cIx (cVarB 3) (cK (PV.int 0))])],
                              cVar 4]))))
                    (cRet (cK (PV.bl false))) cSkip)
                  (cSeq (cAsgV 8 (cApp g_first_move [cVar 0, cVar 1]))
                    (cSeq (cIfS (cCmpT CmpOp.Eq (cVarB 0) (cVarB 1)) (cRet (cCmp CmpOp.Is (cVarB 8) (cK PV.non))) cSkip)
                      (cSeq
                        (cAsgF 9
                          (cComp [6] (gN 6) (itOf (cApp g_law_near [cVar 0]))
                            (cCmpT CmpOp.Eq (cApp g_tower_moves [cVar 6, cVar 1])
                              (cBin Operator.Sub (cVarB 4) (cK (PV.int 1))))
                            (cVar 6)))
                        (cRet
                          (cAndV
                            (cCmp CmpOp.Gt (cApp (g1 fun p => Option.map PV.int (lenV p)) [cVarB 9]) (cK (PV.int 0)))
                            (cApp g_law_like [cVar 8, cIx (cVarB 9) (cK (PV.int 0))])))))))))))))
theorem hb_law_towers_right (g_tower_moves : List PV → Option PV) (g_law_is_int : List PV → Option PV) (g_law_like : List PV → Option PV) (g_law_moves : List PV → Option PV) (g_first_move : List PV → Option PV) (g_law_near : List PV → Option PV) : bodyOf N_law_towers_right s_law_towers_right B_law_towers_right [("tower_moves", g_tower_moves), ("_law_is_int", g_law_is_int), ("_law_like", g_law_like), ("_law_moves", g_law_moves), ("first_move", g_first_move), ("_law_near", g_law_near)] = some (b_law_towers_right g_tower_moves g_law_is_int g_law_like g_law_moves g_first_move g_law_near) := by kernel_rfl
def b_law (g_law_row : List PV → Option PV) (g_law_words_right : List PV → Option PV) (g_law_towers_right : List PV → Option PV) (g_law_like : List PV → Option PV) (g_tower_moves : List PV → Option PV) : Cst :=
  (cSeq (cAsgV 1 (cApp g_law_row [cVar 0, cK (PV.int 24)]))
      (cSeq
        (cAsgF 2
          (cBin Operator.Add (cK (PV.int 1))
            (cBin Operator.Mod (cApp (g1 intV) [cIx (cVarB 1) (cK (PV.int 0))]) (cK (PV.int 9)))))
        (cSeq
          (cIfS
            (cNotT
              (cTst
                (cApp g_law_words_right
                  [cVar 2,
                    cBin Operator.Mod (cApp (g1 intV) [cIx (cVarB 1) (cK (PV.int 1))])
                      (cBin Operator.LShift (cK (PV.int 1)) (cVarB 2)),
                    cBin Operator.Mod (cApp (g1 intV) [cIx (cVarB 1) (cK (PV.int 2))])
                      (cBin Operator.LShift (cK (PV.int 1)) (cVarB 2))])))
            (cRet (cK (PV.bl false))) cSkip)
          (cSeq
            (cAsgF 3
              (cBin Operator.Add (cK (PV.int 1))
                (cBin Operator.Mod (cApp (g1 intV) [cIx (cVarB 1) (cK (PV.int 3))]) (cK (PV.int 4)))))
            (cSeq
              (cIfS
                (cCmpT CmpOp.Eq (cBin Operator.Mod (cApp (g1 intV) [cIx (cVarB 1) (cK (PV.int 4))]) (cK (PV.int 16)))
                  (cK (PV.int 1)))
                (cAsgV 3 (cK (PV.int 5))) cSkip)
              (cSeq
                (cAsgF 4
                  (cComp [5] (gN 5) (itOf (cTup [cK (PV.int 5), cK (PV.int 10), cK (PV.int 15)])) cYes
                    (cApp (g1 tupleV)
                      [cComp [6] (gN 6) (itRg [cVarB 3]) cYes
                          (cBin Operator.Mod (cApp (g1 intV) [cIx (cVarB 1) (cBin Operator.Add (cVarB 5) (cVarB 6))])
                            (cK (PV.int 3)))])))
                (cSeq
                  (cAsgV 7
                    (cIx
                      (cTup
                        [cTup [cK (PV.int 0), cK (PV.int 1), cK (PV.int 2)],
                          cTup [cK (PV.int 0), cK (PV.int 2), cK (PV.int 1)],
                          cTup [cK (PV.int 1), cK (PV.int 0), cK (PV.int 2)],
                          cTup [cK (PV.int 1), cK (PV.int 2), cK (PV.int 0)],
                          cTup [cK (PV.int 2), cK (PV.int 0), cK (PV.int 1)],
                          cTup [cK (PV.int 2), cK (PV.int 1), cK (PV.int 0)]])
                      (cBin Operator.Mod (cApp (g1 intV) [cIx (cVarB 1) (cK (PV.int 20))]) (cK (PV.int 6)))))
                  (cSeq
                    (cIfS
                      (cNotT
                        (cTst
                          (cApp g_law_towers_right
                            [cIx (cVarB 4) (cK (PV.int 0)), cIx (cVarB 4) (cK (PV.int 1)),
                              cIx (cVarB 4) (cK (PV.int 2)), cVar 7])))
                      (cRet (cK (PV.bl false))) cSkip)
                    (cSeq
                      (cRow [8, 9] [true, true]
                        [cBin Operator.Mult (cTup [cIx (cVarB 7) (cK (PV.int 0))]) (cVarB 3),
                          cBin Operator.Mult (cTup [cIx (cVarB 7) (cK (PV.int 1))]) (cVarB 3)])
                      (cSeq
                        (cIfS
                          (cNotT
                            (cTst
                              (cApp g_law_like
                                [cApp g_tower_moves [cVar 8, cVar 9],
                                  cBin Operator.Sub (cBin Operator.LShift (cK (PV.int 1)) (cVarB 3)) (cK (PV.int 1))])))
                          (cRet (cK (PV.bl false))) cSkip)
                        (cRet
                          (cOrV (cCmp CmpOp.Gt (cVarB 3) (cK (PV.int 4)))
                            (cApp g_law_like
                              [cApp g_tower_moves
                                  [cBin Operator.Add (cVarB 8) (cTup [cIx (cVarB 7) (cK (PV.int 0))]),
                                    cBin Operator.Add (cVarB 8) (cTup [cIx (cVarB 7) (cK (PV.int 1))])],
                                cBin Operator.Sub
                                  (cBin Operator.LShift (cK (PV.int 1)) (cBin Operator.Add (cVarB 3) (cK (PV.int 1))))
                                  (cK (PV.int 1))])))))))))))))
theorem hb_law (g_law_row : List PV → Option PV) (g_law_words_right : List PV → Option PV) (g_law_towers_right : List PV → Option PV) (g_law_like : List PV → Option PV) (g_tower_moves : List PV → Option PV) : bodyOf N_law s_law B_law [("_law_row", g_law_row), ("_law_words_right", g_law_words_right), ("_law_towers_right", g_law_towers_right), ("_law_like", g_law_like), ("tower_moves", g_tower_moves)] = some (b_law g_law_row g_law_words_right g_law_towers_right g_law_like g_tower_moves) := by kernel_rfl
end Pi

/-! k47: the words. -/
namespace Pi
open PySem PySem.Spec PyProof.Rows L2
theorem plain_tupI (l : List Int) (h : l.length ≤ 1000) : plainD 1 (tupI l) = true := plain_ints l (sz_le h)
theorem plain2 {p q : PV} {d : Nat} (hp : plainD d p = true) (hq : plainD d q = true) : plainD (d + 1) (.tup [p, q]) = true := by
  simp only [plainD, Bool.and_eq_true, decide_eq_true_eq, List.all_eq_true]
  refine ⟨sz_le (n := 2) (by decide), fun x hx => ?_⟩
  rcases List.mem_cons.mp hx with rfl | hx
  · exact hp
  · rw [List.mem_singleton.mp hx]; exact hq
theorem plain_up : ∀ {d : Nat} {p : PV}, plainD d p = true → plainD (d + 1) p = true
  | _, .non, _ => by unfold plainD; rfl
  | _, .bl _, _ => by unfold plainD; rfl
  | _, .int _, _ => by unfold plainD; rfl
  | _, .str _, _ => by unfold plainD; rfl
  | 0, .tup _, h => by simp [plainD] at h
  | d + 1, .tup l, h => by
    simp only [plainD, Bool.and_eq_true, List.all_eq_true] at h
    rw [plainD, Bool.and_eq_true, List.all_eq_true]
    exact ⟨h.1, fun x hx => plain_up (h.2 x hx)⟩
  | 0, .lst _, h => by simp [plainD] at h
  | d + 1, .lst _, h => by simp [plainD] at h
  | 0, .dic _, h => by simp [plainD] at h
  | d + 1, .dic _, h => by simp [plainD] at h
  | 0, .scr _, h => by simp [plainD] at h
  | d + 1, .scr _, h => by simp [plainD] at h
theorem e_shl {f g : Cl} {ρ : En} {i : Int} {n : Nat} (hf : f ρ = some (.int i)) (hg : g ρ = some (.int (n : Int))) (h : i.natAbs < 2 ^ 64) (hn : n ≤ 1000) : cBin .LShift f g ρ = some (.int (i * 2 ^ n)) := e_bin hf hg (by
  show (if (decide ((0 : Int) ≤ (n : Int)) && decide ((n : Int) ≤ 1000000) && decide (i.natAbs < 2 ^ 64)) = true then some (PV.int (i * 2 ^ (n : Int).toNat)) else none) = _
  rw [if_pos (by simp only [Bool.and_eq_true, decide_eq_true_eq]; omega)]
  rfl)
theorem e_shr {f g : Cl} {ρ : En} {i : Int} {n : Nat} (hf : f ρ = some (.int i)) (hg : g ρ = some (.int (n : Int))) : cBin .RShift f g ρ = some (.int (i / 2 ^ n)) := e_bin hf hg (by
  show (if decide ((0 : Int) ≤ (n : Int)) = true then some (PV.int (i / 2 ^ (n : Int).toNat)) else none) = _
  rw [if_pos (by simp only [decide_eq_true_eq]; omega)]
  rfl)
theorem gray_fact : ((List.range 1024).all fun x => (List.range 10).all fun p => decide (Builtin.bitAnd (Builtin.bitXor (x : Int) ((x : Int) / 2 ^ 1) / 2 ^ p) 1 = (gyd x p : Int))) = true := by decide +kernel
theorem gray_run {n x : Nat} (hn : n ≤ 10) (hx : x < 1024) : runF b_gray_word 4 [.int n, .int x] = some (tupI (gw n x)) := by
  refine run_of (wp_seq (wp_asgF (p := .int (Builtin.bitXor x ((x : Int) / 2 ^ 1))) (e_bin rfl (e_shr (n := 1) rfl rfl) rfl) ?_))
  refine wp_env (ρ' := [.val (.int n), .val (.int x), .val (.int (Builtin.bitXor x ((x : Int) / 2 ^ 1))), .un]) rfl ?_
  refine wp_ret (e_app1 (p := .lst ((gw n x).map .int)) ?_ rfl) (.inl rfl)
  refine Eq.trans (e_cM (xs := List.range n) (fun i : Nat => .int i) (fun p : Nat => .int (gyd x p : Nat)) (it_rgN rfl (by omega)) (fun p hp => ?_) (by rw [List.length_range]; omega)) (by unfold gw; rw [List.map_map]; rfl)
  have hp := List.mem_range.mp hp
  refine ⟨_, rfl, e_eqI (e_bin (e_shr (n := p) rfl rfl) rfl rfl) ?_⟩
  exact of_decide_eq_true (List.all_eq_true.mp (List.all_eq_true.mp gray_fact x (List.mem_range.mpr hx)) p (List.mem_range.mpr (by omega)))
theorem xor_run {a b : Nat} : runF b_law_xor 5 [.int a, .int b] = some (.int (xr a b : Nat)) := by
  refine run_of (wp_seq (wp_row (ps := [.int 0, .int 1]) (evs2 rfl rfl) (sz_le (n := 2) (by decide)) rfl ?_))
  refine wp_seq (wp_forN (n := 10) (fun i ρ => ∃ s4 : Sl, ρ = [.val (.int a), .val (.int b), .val (.int (XR a b i : Nat)), .val (.int (2 ^ i : Nat)), s4]) rfl (by omega) ⟨_, rfl⟩ (fun i ρ1 hlt hi => ?_) (fun ρ1 hi => ?_))
  · obtain ⟨s4, rfl⟩ := hi
    refine ⟨_, rfl, ?_⟩
    have hp : 0 < 2 ^ i ∧ 2 ^ i ≤ 2 ^ 10 := ⟨Nat.two_pow_pos i, Nat.pow_le_pow_right (by decide) (by omega)⟩
    generalize hk : 2 ^ i = k at hp
    refine wp_seq (wp_asgF (p := .int (XR a b (i + 1) : Nat)) (e_eqI (e_add rfl (e_mul rfl (e_mod (e_int (e_add (e_fdiv rfl rfl (by omega) (by omega)) (e_fdiv rfl rfl (by omega) (by omega)))) rfl (by decide)) (.inl (by omega)))) ?_) ?_)
    · rw [XR, hk]
      push_cast
      rfl
    · refine wp_asgF (p := .int (2 ^ (i + 1) : Nat)) (e_eqI (e_mul rfl rfl (.inl (by decide))) ?_) ⟨_, rfl⟩
      rw [Nat.pow_succ, hk]
      push_cast
      omega
  · obtain ⟨s4, rfl⟩ := hi
    exact wp_ret rfl (.inl rfl)
end Pi

/-! k47: the words are right. -/
namespace Pi
open PySem PySem.Spec PyProof.Rows L2
theorem bx_fact : ((List.range 2).all fun u => (List.range 2).all fun v => decide (Builtin.bitXor (u : Int) (v : Int) = (((u + v) % 2 : Nat) : Int))) = true := by decide +kernel
theorem bx {u v : Nat} (hu : u < 2) (hv : v < 2) : Builtin.bitXor (u : Int) (v : Int) = (((u + v) % 2 : Nat) : Int) :=
  of_decide_eq_true (List.all_eq_true.mp (List.all_eq_true.mp bx_fact u (List.mem_range.mpr hu)) v (List.mem_range.mpr hv))
theorem place_run {n x : Nat} (hx : x < 2 ^ n) : runF b_gray_place 4 [tupI (gw n x)] = some (.int x) := by
  refine run_of (wp_seq (wp_row (ps := [.int 0, .int 0]) (evs2 rfl rfl) (sz_le (n := 2) (by decide)) rfl ?_))
  refine wp_seq (wp_forL (xs := (gw n x).reverse) .int (fun i ρ => ∃ s3 : Sl, ρ = [.val (tupI (gw n x)), .val (.int (x / 2 ^ (n - i) : Nat)), .val (.int (x / 2 ^ (n - i) % 2 : Nat)), s3]) ?_ ⟨.un, ?_⟩ (fun i d ρ1 hd hi => ?_) (fun ρ1 hi => ?_))
  · rw [List.map_reverse]
    rfl
  · have e : x / 2 ^ (n - 0) = 0 := Nat.div_eq_of_lt hx
    rw [e]
    rfl
  · obtain ⟨s3, rfl⟩ := hi
    have hlt : i < n := by
      have := (List.getElem?_eq_some_iff.mp hd).1
      rw [List.length_reverse, gw_len] at this
      exact this
    rw [List.getElem?_reverse (by rw [gw_len]; exact hlt), gw_len] at hd
    have hd2 : d = (gyd x (n - 1 - i) : Nat) := by
      have := gw_get (x := x) (p := n - 1 - i) (n := n) (by omega)
      rw [List.getD_eq_getElem?_getD, hd] at this
      exact this
    subst hd2
    refine ⟨_, rfl, ?_⟩
    obtain ⟨q, hq⟩ : ∃ q, n = q + 1 + i := ⟨n - 1 - i, by omega⟩
    have e1 : n - 1 - i = q := by omega
    have e2 : n - i = q + 1 := by omega
    have e3 : n - (i + 1) = q := by omega
    rw [e1, e2, e3]
    obtain ⟨g1, g2⟩ := gyd_step (x := x) (q := q)
    refine wp_seq (wp_asgF (p := .int (x / 2 ^ q % 2 : Nat)) (e_bin rfl rfl ?_) ?_)
    · show some (PV.int (Builtin.bitXor _ _)) = _
      rw [bx (u := x / 2 ^ (q + 1) % 2) (v := gyd x q) (Nat.mod_lt _ (by decide)) (Nat.mod_lt _ (by decide)), g1]
    · refine wp_asgF (p := .int (x / 2 ^ q : Nat)) (e_eqI (e_add (e_mul rfl rfl (.inl (by decide))) rfl) ?_) ⟨_, rfl⟩
      omega
  · obtain ⟨s3, rfl⟩ := hi
    rw [List.length_reverse, gw_len, Nat.sub_self, Nat.pow_zero, Nat.div_one]
    exact wp_ret rfl (.inl rfl)
theorem words_run {gG gL gX gP : List PV → Option PV} (hG : ∀ n x : Nat, n ≤ 10 → x < 1024 → gG [.int n, .int x] = some (tupI (gw n x))) (hL : ∀ p, plainD 2 p = true → gL [p, p] = some (.bl true)) (hX : ∀ a b : Nat, gX [.int a, .int b] = some (.int (xr a b : Nat))) (hP : ∀ n x : Nat, x < 2 ^ n → gP [tupI (gw n x)] = some (.int x))
    {n x y : Nat} (h1 : 1 ≤ n) (h9 : n ≤ 9) (hx : x < 2 ^ n) (hy : y < 2 ^ n) : runF (b_law_words_right gG gL gX gP) 10 [.int n, .int x, .int y] = some (.bl true) := by
  have h512 : 2 ^ n ≤ 2 ^ 9 := Nat.pow_le_pow_right (by decide) h9
  have hpl : ∀ m x : Nat, m ≤ 10 → plainD 2 (tupI (gw m x)) = true := fun m x h => plain_up (plain_tupI _ (by rw [gw_len]; omega))
  have hz := xr_lt (by omega) hx hy
  refine run_of (wp_seq (wp_asgF (p := .int (2 ^ n : Nat)) (e_eqI (e_shl (n := n) rfl rfl (by decide) (by omega)) (by push_cast; rw [Int.one_mul])) ?_))
  refine wp_seq (wp_row (ps := [tupI (gw n x), tupI (gw n y)]) (evs2 (e_app2 rfl rfl (hG n x (by omega) (by omega))) (e_app2 rfl rfl (hG n y (by omega) (by omega)))) (sz_le (n := 2) (by decide)) rfl ?_)
  refine wp_env (ρ' := [.val (.int n), .val (.int x), .val (.int y), .val (.int (2 ^ n : Nat)), .val (tupI (gw n x)), .val (tupI (gw n y)), .un, .un, .un, .un]) rfl ?_
  refine wp_seq (wp_asgV (p := tupI (gw n x)) (e_app1 (p := .lst ((gw n x).map .int)) ?_ rfl) ?_)
  · refine Eq.trans (e_cM (xs := List.range n) (fun i : Nat => .int i) (fun p : Nat => .int (gyd x p : Nat)) (it_rgN rfl (by omega)) (fun p hp => ?_) (by rw [List.length_range]; omega)) (by unfold gw; rw [List.map_map]; rfl)
    have hp := List.mem_range.mp hp
    have h2 : 0 < 2 ^ p ∧ 2 ^ p ≤ 2 ^ 9 := ⟨Nat.two_pow_pos p, Nat.pow_le_pow_right (by decide) (by omega)⟩
    have hc : (2 : Int) ^ p = ((2 ^ p : Nat) : Int) := by push_cast; rfl
    refine ⟨_, rfl, e_eqI (e_mod (e_int (e_add (e_fdiv rfl (e_shl (n := p) rfl rfl (by decide) (by omega)) (by rw [hc]; omega) (by rw [hc]; omega)) (e_fdiv rfl (e_shl (n := p) rfl rfl (by decide) (by omega)) (by rw [hc]; omega) (by rw [hc]; omega)))) rfl (by decide)) ?_⟩
    rw [hc]
    unfold gyd
    rw [Nat.pow_succ, Nat.mul_comm (2 ^ p) 2]
    push_cast
    rw [Int.one_mul]
  refine wp_env (ρ' := [.val (.int n), .val (.int x), .val (.int y), .val (.int (2 ^ n : Nat)), .val (tupI (gw n x)), .val (tupI (gw n y)), .val (tupI (gw n x)), .un, .un, .un]) rfl ?_
  refine wp_seq (wp_no (q_like rfl rfl (hL _ (hpl n x (by omega)))) ?_)
  refine wp_seq (wp_no (q_orF (q_notF rfl) (q_orF (q_notF rfl) (q_orF (q_neF (e_lenT (ns := gw n x) rfl) rfl (by rw [gw_len])) (q_neF (e_lenT (ns := gw n y) rfl) rfl (by rw [gw_len]))))) ?_)
  refine wp_seq (wp_asgV (p := tupI (gw n (xr x y))) (e_app1 (p := .lst ((gw n (xr x y)).map .int)) ?_ rfl) ?_)
  · refine Eq.trans (e_cM (xs := List.range n) (fun i : Nat => .int i) (fun p : Nat => .int (gyd (xr x y) p : Nat)) (it_rgN rfl (by omega)) (fun p hp => ?_) (by rw [List.length_range]; omega)) (by unfold gw; rw [List.map_map]; rfl)
    have hp := List.mem_range.mp hp
    refine ⟨_, rfl, e_eqI (e_mod (e_int (e_add (e_ix rfl rfl (ixD (ws := gw n x) (i := p) (by rw [gw_len]; exact hp))) (e_ix rfl rfl (ixD (ws := gw n y) (i := p) (by rw [gw_len]; exact hp))))) rfl (by decide)) ?_⟩
    rw [gw_get hp, gw_get hp, gyd_xr (by omega)]
    push_cast
    rfl
  refine wp_env (ρ' := [.val (.int n), .val (.int x), .val (.int y), .val (.int (2 ^ n : Nat)), .val (tupI (gw n x)), .val (tupI (gw n y)), .val (tupI (gw n x)), .un, .val (tupI (gw n (xr x y))), .un]) rfl ?_
  refine wp_seq (wp_no (q_like (e_app2 rfl (e_app2 rfl rfl (hX x y)) (hG n (xr x y) (by omega) (by omega))) rfl (hL _ (hpl n _ (by omega)))) ?_)
  refine wp_seq (wp_no (q_like (e_tup2 (e_app1 rfl (hP n x hx)) (e_app1 rfl (hP n _ hz))) (e_tup2 rfl (e_app2 rfl rfl (hX x y))) (hL _ (plain2 rfl rfl))) ?_)
  refine wp_seq (wp_no (q_like (p := tupI (gw (n + 1) x)) (e_app2 (q := .int x) (e_eqI (j := ((n + 1 : Nat) : Int)) (e_add rfl rfl) (by push_cast; rfl)) rfl (hG (n + 1) x (by omega) (by omega))) (by
    rw [gw_more hx]
    exact e_catI (l := gw n x) (m := [0]) rfl rfl (by rw [gw_len]; show n + 1 ≤ 1000; omega)) (hL _ (hpl _ _ (by omega)))) ?_)
  refine wp_seq (wp_no (q_like (p := tupI (gw (n + 1) (2 ^ (n + 1) - 1 - x))) (e_app2 (e_eqI (j := ((n + 1 : Nat) : Int)) (e_add rfl rfl) (by push_cast; rfl)) (e_eqI (j := ((2 ^ (n + 1) - 1 - x : Nat) : Int)) (e_sub (e_sub (e_mul rfl rfl (.inl (by decide))) rfl) rfl) (by rw [Nat.pow_succ]; omega)) (hG (n + 1) _ (by omega) (by rw [Nat.pow_succ]; omega))) (by
    rw [gw_back h9 hx]
    exact e_catI (l := gw n x) (m := [1]) rfl rfl (by rw [gw_len]; show n + 1 ≤ 1000; omega)) (hL _ (hpl _ _ (by omega)))) ?_)
  have hm := Nat.mod_lt (x + 1) (Nat.two_pow_pos n)
  refine wp_seq (wp_asgV (p := tupI (gw n ((x + 1) % 2 ^ n))) (e_app2 rfl (e_eqI (j := (((x + 1) % 2 ^ n : Nat) : Int)) (e_mod (e_int (e_add rfl rfl)) rfl (by omega)) (by push_cast; rfl)) (hG n _ (by omega) (by omega))) ?_)
  refine wp_env (ρ' := [.val (.int n), .val (.int x), .val (.int y), .val (.int (2 ^ n : Nat)), .val (tupI (gw n x)), .val (tupI (gw n y)), .val (tupI (gw n x)), .un, .val (tupI (gw n (xr x y))), .val (tupI (gw n ((x + 1) % 2 ^ n)))]) rfl ?_
  refine wp_ret (e_orB (x := true) (y := false) (e_cmp (q := .int 1) (e_len (n := 1) (e_cG (xs := List.range n) (fun i : Nat => .int i) (fun k => !decide (gyd x k = gyd ((x + 1) % 2 ^ n) k)) (fun i : Nat => .int i) (it_rgN rfl (by omega)) (fun p hp => ?_) (by rw [List.length_range]; omega)) ?_) rfl rfl) (fun z => by cases z)) (.inl rfl)
  · have hp := List.mem_range.mp hp
    refine ⟨_, rfl, ?_, fun _ => rfl⟩
    have := q_ne (e_ix (f := cVarB 4) (g := cVarB 7) (ρ := [.val (.int n), .val (.int x), .val (.int y), .val (.int (2 ^ n : Nat)), .val (tupI (gw n x)), .val (tupI (gw n y)), .val (tupI (gw n x)), .val (.int p), .val (tupI (gw n (xr x y))), .val (tupI (gw n ((x + 1) % 2 ^ n)))]) rfl rfl (ixD (ws := gw n x) (i := p) (by rw [gw_len]; exact hp))) (e_ix (f := cVarB 9) (g := cVarB 7) rfl rfl (ixD (ws := gw n ((x + 1) % 2 ^ n)) (i := p) (by rw [gw_len]; exact hp)))
    rw [gw_get hp, gw_get hp] at this
    refine Eq.trans this ?_
    congr 2
    rw [decide_eq_decide]
    omega
  · show some (((List.filter _ _).map _).length : Int) = _
    rw [List.length_map, gw_next h1 h9 hx]
    rfl
end Pi

/-! k47: the towers next. -/
namespace Pi
open PySem PySem.Spec PyProof.Rows L2
def nrow (t : Tw) (d : Nat) : List Tw := (pegs.filter (canB t d)).map (mv t d)
def nUp (t : Tw) (i : Nat) : List Tw := (List.range i).flatMap (nrow t)
theorem nUp_succ (t : Tw) (i : Nat) : nUp t (i + 1) = nUp t i ++ nrow t i := by
  unfold nUp
  rw [List.range_succ, List.flatMap_append, List.flatMap_cons, List.flatMap_nil, List.append_nil]
theorem nrow_len (t : Tw) (d : Nat) : (nrow t d).length ≤ 3 := by
  unfold nrow
  rw [List.length_map]
  exact List.length_filter_le _ _
theorem nUp_len (t : Tw) : ∀ i, (nUp t i).length ≤ 3 * i
  | 0 => Nat.le_refl _
  | i + 1 => by
    rw [nUp_succ, List.length_append]
    have := nUp_len t i
    have := nrow_len t i
    omega
def pUp (t : Tw) (d j : Nat) : List Tw := ((pegs.take j).filter (canB t d)).map (mv t d)
theorem pUp_succ {t : Tw} {d j : Nat} {o : Int} (h : pegs[j]? = some o) : pUp t d (j + 1) = pUp t d j ++ if canB t d o then [mv t d o] else [] := by
  unfold pUp
  rw [List.take_succ, h, List.filter_append, List.map_append]
  congr 1
  show ((([o] : List Int).filter _).map _) = _
  rw [List.filter_cons]
  split <;> rfl
theorem pUp_len (t : Tw) (d j : Nat) : (pUp t d j).length ≤ 3 := by
  unfold pUp
  rw [List.length_map]
  have h1 := List.length_filter_le (canB t d) (pegs.take j)
  have h2 : (pegs.take j).length ≤ 3 := by rw [List.length_take]; exact Nat.min_le_right _ _
  omega
theorem nin_take {t : Tw} {o : Int} {d : Nat} {f g h : Cl} {ρ : En} (hf : f ρ = some (.int o)) (hg : g ρ = some (tupI t)) (hh : h ρ = some (.int d)) : cCmpT .NotIn f (cSl g none (some h)) ρ = some (decide (o ∉ t.take d)) := q_cmp hf (by
  have := e_slT hg hh (by omega)
  rw [Int.toNat_natCast, ← List.map_take] at this
  exact this) (nin_tup o (t.take d))
theorem e_mv {t : Tw} {o : Int} {d : Nat} {f g h h2 : Cl} {ρ : En} (hl : t.length ≤ 100) (hf : f ρ = some (.int o)) (hg : g ρ = some (tupI t)) (hh : h ρ = some (.int d)) (hh2 : h2 ρ = some (.int (d + 1))) : cBin .Add (cBin .Add (cSl g none (some h)) (cTup [f])) (cSl g (some h2) none) ρ = some (tupI (mv t d o)) := by
  have a1 := e_slT hg hh (by omega)
  rw [Int.toNat_natCast, ← List.map_take] at a1
  have a2 := e_slF hg hh2 (by omega)
  rw [show ((d : Int) + 1).toNat = d + 1 by omega, ← List.map_drop] at a2
  have hl2 : (t.take d).length ≤ 100 := Nat.le_trans (by rw [List.length_take]; exact Nat.min_le_right _ _) hl
  have hl3 : (t.drop (d + 1)).length ≤ 100 := by rw [List.length_drop]; omega
  exact e_catI (l := t.take d ++ [o]) (m := t.drop (d + 1)) (e_catI (l := t.take d) (m := [o]) a1 (e_tup1 hf) (by simp; omega)) a2 (by simp; omega)
theorem tAt {t : Tw} {d : Nat} (h : d < t.length) : (t.map PV.int)[d]? = some (.int (t.getD d 0)) := by
  rw [List.getElem?_map, List.getElem?_eq_getElem h, List.getD_eq_getElem?_getD, List.getElem?_eq_getElem h]
  rfl
theorem next_run {t : Tw} (hl : t.length ≤ 5) : runF b_next_towers 5 [tupI t] = some (.lst ((sortR (nbL t)).map tupI)) := by
  refine run_of (wp_seq (wp_asgF (p := .lst []) rfl ?_))
  refine wp_seq (wp_for (items := enumP (t.map .int)) (fun i ρ => ∃ s2 s3 s4 : Sl, ρ = [.val (tupI t), .own (.lst ((nUp t i).map tupI)), s2, s3, s4]) rfl ⟨_, _, _, rfl⟩ (fun d p ρ1 hp hi => ?_) (fun ρ1 hi => ?_))
  · obtain ⟨s2, s3, s4, rfl⟩ := hi
    have hd : d < t.length := by
      have := (List.getElem?_eq_some_iff.mp hp).1
      rw [enumP_len, List.length_map] at this
      exact this
    rw [enumP_get (tAt hd)] at hp
    cases hp
    have hlen := nUp_len t d
    refine ⟨_, rfl, ?_⟩
    refine wp_env (ρ' := [.val (tupI t), .own (.lst ((nUp t d).map tupI)), .val (.int d), .val (.int (t.getD d 0)), s4]) rfl ?_
    refine wp_if (nin_take rfl rfl rfl) (fun hb => ?_) (fun hb => ?_)
    · have hb := of_decide_eq_true hb
      refine wp_forL (xs := pegs) .int (fun j ρ => ∃ s4 : Sl, ρ = [.val (tupI t), .own (.lst ((nUp t d ++ pUp t d j).map tupI)), .val (.int d), .val (.int (t.getD d 0)), s4]) rfl ⟨s4, by rw [show pUp t d 0 = [] from rfl, List.append_nil]⟩ (fun j o ρ1 ho hi => ?_) (fun ρ1 hi => ?_)
      · obtain ⟨s4, rfl⟩ := hi
        refine ⟨_, rfl, ?_⟩
        have hpl := pUp_len t d j
        refine wp_env (ρ' := [.val (tupI t), .own (.lst ((nUp t d ++ pUp t d j).map tupI)), .val (.int d), .val (.int (t.getD d 0)), .val (.int o)]) rfl ?_
        have e := pUp_succ (t := t) (d := d) ho
        refine wp_if (q_and (q_ne rfl rfl) (fun _ => nin_take rfl rfl rfl)) (fun hc => ?_) (fun hc => ?_)
        · have c : canB t d o = true := by
            unfold canB
            simp only [Bool.and_eq_true, Bool.not_eq_true', decide_eq_true_eq, decide_eq_false_iff_not] at hc ⊢
            exact ⟨hb, hc.1, hc.2⟩
          rw [c, if_pos rfl] at e
          refine wp_append (l := (nUp t d ++ pUp t d j).map tupI) (p := tupI (mv t d o)) rfl (e_mv (by omega) rfl rfl rfl (e_add rfl rfl)) (by rw [List.length_map, List.length_append]; exact sz_of (by omega)) ⟨.val (.int o), ?_⟩
          rw [e, ← List.append_assoc, List.map_append (l₂ := [mv t d o])]
          rfl
        · have c : canB t d o = false := by
            unfold canB
            rw [← Bool.not_eq_true]
            rw [← Bool.not_eq_true] at hc
            refine fun z => hc ?_
            simp only [Bool.and_eq_true, Bool.not_eq_true', decide_eq_true_eq, decide_eq_false_iff_not] at z ⊢
            exact ⟨z.2.1, z.2.2⟩
          rw [c, if_neg (by decide), List.append_nil] at e
          exact wp_skip ⟨_, by rw [e]⟩
      · obtain ⟨s4, rfl⟩ := hi
        refine ⟨.val (.int d), .val (.int (t.getD d 0)), s4, ?_⟩
        rw [nUp_succ]
        rfl
    · have hb := of_decide_eq_false hb
      refine wp_skip ⟨.val (.int d), .val (.int (t.getD d 0)), s4, ?_⟩
      have : nrow t d = [] := by
        unfold nrow
        rw [List.filter_eq_nil_iff.mpr fun o _ => by
          unfold canB
          rw [decide_eq_false (p := t.getD d 0 ∉ t.take d) hb]
          simp]
        rfl
      rw [nUp_succ, this, List.append_nil]
  · obtain ⟨s2, s3, s4, rfl⟩ := hi
    rw [enumP_len, List.length_map]
    exact wp_ret (e_sortedR rfl (.inr rfl)) (.inl rfl)
theorem near_run {t : Tw} (hl : t.length ≤ 5) : runF b_law_near 4 [tupI t] = some (.lst ((sortR (nbL t)).map tupI)) := by
  refine run_of (wp_seq (wp_asgF (p := .lst []) rfl ?_))
  refine wp_seq (wp_forN (n := t.length) (fun i ρ => ∃ s2 s3 : Sl, ρ = [.val (tupI t), .own (.lst ((nUp t i).map tupI)), s2, s3]) (e_lenT (ns := t) rfl) (by omega) ⟨_, _, rfl⟩ (fun d ρ1 hd hi => ?_) (fun ρ1 hi => ?_))
  · obtain ⟨s2, s3, rfl⟩ := hi
    have hlen := nUp_len t d
    refine ⟨_, rfl, ?_⟩
    refine wp_env (ρ' := [.val (tupI t), .own (.lst ((nUp t d).map tupI)), .val (.int d), s3]) rfl ?_
    have hx : ∀ {s1 s3 : Sl}, cIx (cVarB 0) (cVarB 2) [.val (tupI t), s1, .val (.int d), s3] = some (.int (t.getD d 0)) := fun {s1 s3} => e_ix rfl rfl (ixD hd)
    refine wp_forL (xs := pegs) .int (fun j ρ => ∃ s3 : Sl, ρ = [.val (tupI t), .own (.lst ((nUp t d ++ pUp t d j).map tupI)), .val (.int d), s3]) rfl ⟨s3, by rw [show pUp t d 0 = [] from rfl, List.append_nil]⟩ (fun j o ρ1 ho hi => ?_) (fun ρ1 hi => ?_)
    · obtain ⟨s3, rfl⟩ := hi
      refine ⟨_, rfl, ?_⟩
      have hpl := pUp_len t d j
      refine wp_env (ρ' := [.val (tupI t), .own (.lst ((nUp t d ++ pUp t d j).map tupI)), .val (.int d), .val (.int o)]) rfl ?_
      have e := pUp_succ (t := t) (d := d) ho
      refine wp_if (q_and (q_ne rfl hx) (fun _ => q_and (nin_take hx rfl rfl) fun _ => nin_take rfl rfl rfl)) (fun hc => ?_) (fun hc => ?_)
      · have c : canB t d o = true := by
          unfold canB
          simp only [Bool.and_eq_true, Bool.not_eq_true', decide_eq_true_eq, decide_eq_false_iff_not] at hc ⊢
          exact ⟨hc.2.1, hc.1, hc.2.2⟩
        rw [c, if_pos rfl] at e
        refine wp_append (l := (nUp t d ++ pUp t d j).map tupI) (p := tupI (mv t d o)) rfl (e_mv (by omega) rfl rfl rfl (e_add rfl rfl)) (by rw [List.length_map, List.length_append]; exact sz_of (by omega)) ⟨.val (.int o), ?_⟩
        rw [e, ← List.append_assoc, List.map_append (l₂ := [mv t d o])]
        rfl
      · have c : canB t d o = false := by
          unfold canB
          rw [← Bool.not_eq_true]
          rw [← Bool.not_eq_true] at hc
          refine fun z => hc ?_
          simp only [Bool.and_eq_true, Bool.not_eq_true', decide_eq_true_eq, decide_eq_false_iff_not] at z ⊢
          exact ⟨z.2.1, z.1, z.2.2⟩
        rw [c, if_neg (by decide), List.append_nil] at e
        exact wp_skip ⟨_, by rw [e]⟩
    · obtain ⟨s3, rfl⟩ := hi
      refine ⟨.val (.int d), s3, ?_⟩
      rw [nUp_succ]
      rfl
  · obtain ⟨s2, s3, rfl⟩ := hi
    exact wp_ret (e_sortedR rfl (.inr rfl)) (.inl rfl)
end Pi

/-! k47: the counts of steps. -/
namespace Pi
open PySem PySem.Spec PyProof.Rows L2
theorem wp_subD {i : Nat} {ix f : Cl} {ρ : En} {Q : En → Fl → Prop} {kvs : List (PV × PV)} {q p : PV} (hf : f ρ = some p) (hi : ρ[i]? = some (.own (.dic kvs))) (hx : ix ρ = some q) (hk : isKey q = true) (hl : kvs.length < sizeLine) (w : Q (ρ.set i (.own (.dic (putP kvs q p)))) .nx) : Wp (cTgA (cSubL i ix) f) ρ Q := by
  refine wp_tg hf (ρ' := ρ.set i (.own (.dic (putP kvs q p)))) ?_ w
  simp only [cSubL, hi, hx, Option.bind_some]
  rw [hk, decide_eq_true hl]
  rfl
theorem keysOf_int (l : List Int) : keysOf (tupI l) = some (l.map .inl) := by
  show (l.map PV.int).mapM keyOf = _
  induction l with
  | nil => rfl
  | cons x l ih =>
    rw [List.map_cons, List.mapM_cons, ih]
    rfl
theorem isKey_int (l : List Int) : isKey (tupI l) = true := by unfold isKey; rw [keysOf_int]; rfl
theorem sameK_int (a b : List Int) : sameK (tupI a) (tupI b) = decide (a = b) := by
  rw [sameK_of (keysOf_int a) (keysOf_int b), decide_eq_decide]
  constructor
  · intro h
    have := congrArg (List.map fun k : Key => match k with
      | .inl i => i
      | .inr _ => (0 : Int)) h
    rw [List.map_map, List.map_map] at this
    simpa [Function.comp_def] using this
  · rintro rfl; rfl
def dR (A : List (Tw × Nat)) : List (PV × PV) := A.map fun a => (tupI a.1, PV.int (a.2 : Int))
theorem dR_in : ∀ {A : List (Tw × Nat)} {u : Tw} {e : Nat}, (A.map (·.1)).Nodup → (u, e) ∈ A → valP (dR A) (tupI u) = some (.int e)
  | [], _, _, _, h => by cases h
  | (t, d) :: A, u, e, nd, h => by
    rw [List.map_cons, List.nodup_cons] at nd
    unfold valP dR
    rw [List.map_cons, List.find?_cons, sameK_int]
    by_cases q : t = u
    · subst q
      rw [decide_eq_true rfl]
      rcases List.mem_cons.mp h with h | h
      · cases h; rfl
      · exact absurd (List.mem_map.mpr ⟨_, h, rfl⟩) nd.1
    · rw [decide_eq_false q]
      rcases List.mem_cons.mp h with h | h
      · cases h; exact absurd rfl q
      · exact dR_in nd.2 h
theorem dR_any (A : List (Tw × Nat)) (u : Tw) : ((dR A).any fun kv => sameK kv.1 (tupI u)) = decide (u ∈ A.map (·.1)) := by
  induction A with
  | nil => rfl
  | cons a A ih =>
    unfold dR at ih ⊢
    rw [List.map_cons, List.any_cons, ih, sameK_int, List.map_cons, Bool.eq_iff_iff, Bool.or_eq_true, decide_eq_true_eq, decide_eq_true_eq, decide_eq_true_eq, List.mem_cons]
    exact ⟨fun h => h.elim (fun h => .inl h.symm) .inr, fun h => h.elim (fun h => .inl h.symm) .inr⟩
theorem dR_out {A : List (Tw × Nat)} {u : Tw} (h : u ∉ A.map (·.1)) : valP (dR A) (tupI u) = none := by
  unfold valP
  have := dR_any A u
  rw [decide_eq_false h, List.any_eq_false] at this
  rw [List.find?_eq_none.mpr this]
  rfl
theorem dR_put {A : List (Tw × Nat)} {u : Tw} {e : Nat} (h : u ∉ A.map (·.1)) : putP (dR A) (tupI u) (.int e) = dR (A ++ [(u, e)]) := by
  unfold putP
  rw [dR_any, if_neg (by simpa using h)]
  unfold dR
  rw [List.map_append]
  rfl
theorem dR_nin {A : List (Tw × Nat)} {u : Tw} (nd : (A.map (·.1)).Nodup) : cmpV .NotIn (tupI u) (.dic (dR A)) = some (decide (u ∉ A.map (·.1))) := by
  show (if isKey (tupI u) then some (valP (dR A) (tupI u)).isSome else none).map _ = _
  rw [isKey_int, if_pos rfl]
  by_cases h : u ∈ A.map (·.1)
  · obtain ⟨⟨v, e⟩, hm, rfl⟩ := List.mem_map.mp h
    rw [dR_in nd hm, decide_eq_false (by simpa using h)]
    rfl
  · rw [dR_out h, decide_eq_true h]
    rfl
theorem dR_ix {R : List (PV × PV)} {u : Tw} {p : PV} (h : valP R (tupI u) = some p) {f g : Cl} {ρ : En} (hf : f ρ = some (.dic R)) (hg : g ρ = some (tupI u)) : cIx f g ρ = some p := by
  unfold cIx
  rw [hf]
  dsimp only [Option.bind]
  rw [hg]
  show (if isKey (tupI u) then valP R (tupI u) else none) = _
  rw [isKey_int, if_pos rfl, h]
theorem nd_len {α : Type} [DecidableEq α] : ∀ {l m : List α}, l.Nodup → (∀ x ∈ l, x ∈ m) → l.length ≤ m.length
  | [], _, _, _ => Nat.zero_le _
  | x :: l, m, nd, h => by
    obtain ⟨n1, n2⟩ := List.nodup_cons.mp nd
    have hx := h x List.mem_cons_self
    have := nd_len (m := m.erase x) n2 fun y hy => (List.mem_erase_of_ne fun (z : y = x) => n1 (z ▸ hy)).mpr (h y (List.mem_cons_of_mem _ hy))
    rw [List.length_erase_of_mem hx] at this
    have := List.length_pos_of_mem hx
    rw [List.length_cons]
    omega
theorem allT_len : ((List.range 6).all fun m => decide ((allT m).length ≤ 243)) = true := by decide +kernel
/-- the state of the search -/
structure Bf (m : Nat) (g : Tw) (A : List (Tw × Nat)) (c : Nat) : Prop where
  nd : (A.map (·.1)).Nodup
  ok : ∀ a ∈ A, okT m a.1 ∧ W g a.2 a.1
  st : (g, 0) ∈ A
  up : A.Pairwise fun a b => a.2 ≤ b.2
  near : ∀ b, A[c]? = some b → ∀ a ∈ A, a.2 ≤ b.2 + 1
  done : ∀ i a, i < c → A[i]? = some a → ∀ u ∈ nbL a.1, ∃ e, e ≤ a.2 + 1 ∧ (u, e) ∈ A
theorem Bf.len {m : Nat} {g : Tw} {A : List (Tw × Nat)} {c : Nat} (B : Bf m g A c) (hm : m ≤ 5) : A.length ≤ 243 := by
  have := nd_len (m := allT m) B.nd fun x hx => by
    obtain ⟨a, ha, rfl⟩ := List.mem_map.mp hx
    exact allT_mem.mpr (B.ok a ha).1
  rw [List.length_map] at this
  exact Nat.le_trans this (of_decide_eq_true (List.all_eq_true.mp allT_len m (List.mem_range.mpr (by omega))))
theorem Bf.start {m : Nat} {g : Tw} (h : okT m g) : Bf m g [(g, 0)] 0 := ⟨by simp, fun a ha => by rw [List.mem_singleton.mp ha]; exact ⟨h, .zero⟩, List.mem_cons_self, List.pairwise_singleton _ _, fun b hb a ha => by rw [List.mem_singleton.mp ha]; exact Nat.zero_le _, fun i a hi => by omega⟩
theorem Bf.add {m : Nat} {g : Tw} {A : List (Tw × Nat)} {c : Nat} (B : Bf m g A c) {t : Tw} {d : Nat} (hc : A[c]? = some (t, d)) {u : Tw} (hu : u ∈ nbL t) (hn : u ∉ A.map (·.1)) : Bf m g (A ++ [(u, d + 1)]) c ∧ (A ++ [(u, d + 1)])[c]? = some (t, d) := by
  have hlt : c < A.length := (List.getElem?_eq_some_iff.mp hc).1
  have hc' : (A ++ [(u, d + 1)])[c]? = some (t, d) := by rw [List.getElem?_append_left hlt, hc]
  obtain ⟨ht, hw⟩ := B.ok _ (List.mem_of_getElem? hc)
  refine ⟨⟨?_, fun a ha => ?_, List.mem_append_left _ B.st, ?_, fun b hb a ha => ?_, fun i a hi ha v hv => ?_⟩, hc'⟩
  · rw [List.map_append]
    refine List.nodup_append.mpr ⟨B.nd, by simp, fun x hx y hy => ?_⟩
    rw [List.map_cons, List.map_nil, List.mem_singleton] at hy
    rw [hy]
    exact fun z => hn ((show x = u from z) ▸ hx)
  · rcases List.mem_append.mp ha with ha | ha
    · exact B.ok a ha
    · rw [List.mem_singleton.mp ha]
      exact ⟨nb_ok ht hu, .step hw hu⟩
  · refine List.pairwise_append.mpr ⟨B.up, List.pairwise_singleton _ _, fun a ha b hb => ?_⟩
    rw [List.mem_singleton.mp hb]
    exact B.near _ hc a ha
  · rw [hc'] at hb
    cases hb
    rcases List.mem_append.mp ha with ha | ha
    · exact B.near _ hc a ha
    · rw [List.mem_singleton.mp ha]
      exact Nat.le_refl _
  · rw [List.getElem?_append_left (by omega)] at ha
    obtain ⟨e, he, hm⟩ := B.done i a hi ha v hv
    exact ⟨e, he, List.mem_append_left _ hm⟩
theorem Bf.next {m : Nat} {g : Tw} {A : List (Tw × Nat)} {c : Nat} (B : Bf m g A c) {t : Tw} {d : Nat} (hc : A[c]? = some (t, d)) (h : ∀ u ∈ nbL t, u ∈ A.map (·.1)) : Bf m g A (c + 1) := by
  refine ⟨B.nd, B.ok, B.st, B.up, fun b hb a ha => ?_, fun i a hi ha u hu => ?_⟩
  · have h1 := B.near _ hc a ha
    obtain ⟨l1, e1⟩ := List.getElem?_eq_some_iff.mp hc
    obtain ⟨l2, e2⟩ := List.getElem?_eq_some_iff.mp hb
    have := List.pairwise_iff_getElem.mp B.up c (c + 1) l1 l2 (by omega)
    rw [e1, e2] at this
    exact Nat.le_trans h1 (Nat.succ_le_succ this)
  · by_cases z : i = c
    · subst z
      rw [hc] at ha
      cases ha
      obtain ⟨⟨v, e⟩, hm, rfl⟩ := List.mem_map.mp (h u hu)
      exact ⟨e, B.near _ hc _ hm, hm⟩
    · exact B.done i a (by omega) ha u hu
theorem Bf.fin {m : Nat} {g : Tw} {A : List (Tw × Nat)} {c : Nat} (B : Bf m g A c) (hc : A.length ≤ c) (hm : m ≤ 5) (hg : okT m g) {t : Tw} (ht : okT m t) : (t, dst g t) ∈ A := by
  have key : ∀ {k : Nat} {t : Tw}, W g k t → ∃ e, e ≤ k ∧ (t, e) ∈ A := fun {k t} w => by
    induction w with
    | zero => exact ⟨0, Nat.le_refl _, B.st⟩
    | @step k t u w hu ih =>
      obtain ⟨e, he, hm⟩ := ih
      obtain ⟨i, hi⟩ := List.getElem?_of_mem hm
      obtain ⟨e2, h2, hm2⟩ := B.done i _ (by have := (List.getElem?_eq_some_iff.mp hi).1; omega) hi u hu
      exact ⟨e2, by omega, hm2⟩
  have hd := dst_isD hm hg ht
  obtain ⟨e, he, hmem⟩ := key hd.1
  have := hd.2 e (B.ok _ hmem).2
  rw [show dst g t = e by omega]
  exact hmem
theorem at_map {A : List (Tw × Nat)} {c : Nat} {t : Tw} {d : Nat} (h : A[c]? = some (t, d)) {f g : Cl} {ρ : En} (hf : f ρ = some (.lst ((A.map (·.1)).map tupI))) (hg : g ρ = some (.int c)) : cIx f g ρ = some (tupI t) := e_ix hf hg (by
  show atI _ _ = _
  refine atI_nat ?_
  rw [List.getElem?_map, List.getElem?_map, h]
  rfl)
theorem nb_len {t : Tw} (h : t.length ≤ 5) : (nbL t).length ≤ 15 := Nat.le_trans (nUp_len t t.length) (by omega)
theorem steps_run {gN : List PV → Option PV} (hN : ∀ t : Tw, t.length ≤ 5 → gN [tupI t] = some (.lst ((sortR (nbL t)).map tupI))) {m : Nat} (hm : m ≤ 5) {g : Tw} (hg : okT m g) : ∃ r, runF (b_tower_steps gN) 5 [tupI g] = some r ∧ ∃ R, r = .dic R ∧ ∀ t, okT m t → valP R (tupI t) = some (.int (dst g t : Nat)) := by
  refine run_ex (wp_seq (wp_asgF (p := .dic (dR [(g, 0)])) ?_ ?_))
  · show (if isKey (tupI g) then _ else none) = _
    rw [isKey_int]
    rfl
  refine wp_seq (wp_asgF (p := .lst (([(g, 0)] : List (Tw × Nat)).map (·.1) |>.map tupI)) rfl ?_)
  refine wp_seq (wp_asgV (p := .int 0) rfl ?_)
  refine wp_env (ρ' := [.val (tupI g), .own (.dic (dR [(g, 0)])), .own (.lst (([(g, 0)] : List (Tw × Nat)).map (·.1) |>.map tupI)), .val (.int 0), .un]) rfl ?_
  refine wp_seq (wp_while (n := WF) (fun k ρ => ∃ (A : List (Tw × Nat)) (c : Nat) (s4 : Sl), ρ = [.val (tupI g), .own (.dic (dR A)), .own (.lst ((A.map (·.1)).map tupI)), .val (.int c), s4] ∧ Bf m g A c ∧ c + k = 243) (fun k ρ1 hi => ?_) 243 _ (by show 243 < 1000000; decide) ⟨[(g, 0)], 0, .un, rfl, .start hg, rfl⟩)
  obtain ⟨A, c, s4, rfl, B, hk⟩ := hi
  have hlen := B.len hm
  refine ⟨decide (c < A.length), ?_, fun hb => ?_, fun hb => ?_⟩
  · refine Eq.trans (q_lt (i := (c : Int)) (j := (A.length : Int)) rfl (e_len rfl ?_)) ?_
    · show some (((A.map (·.1)).map tupI).length : Int) = _
      rw [List.length_map, List.length_map]
    · congr 1
      rw [decide_eq_decide]
      omega
  · have hb := of_decide_eq_true hb
    obtain ⟨⟨t, d⟩, hc⟩ : ∃ a, A[c]? = some a := ⟨A[c], List.getElem?_eq_getElem hb⟩
    have ht := (B.ok _ (List.mem_of_getElem? hc)).1
    have hs := sortR_perm (nbL t)
    have hnl : (sortR (nbL t)).length ≤ 15 := by rw [hs.length_eq]; exact nb_len (by rw [ht.1]; exact hm)
    have hmem : ∀ u, u ∈ sortR (nbL t) ↔ u ∈ nbL t := fun u => hs.mem_iff
    generalize hS : sortR (nbL t) = S at hnl hmem
    refine wp_seq (wp_forL (xs := S) tupI (fun i ρ => ∃ (A' : List (Tw × Nat)) (s4 : Sl), ρ = [.val (tupI g), .own (.dic (dR A')), .own (.lst ((A'.map (·.1)).map tupI)), .val (.int c), s4] ∧ Bf m g A' c ∧ A'[c]? = some (t, d) ∧ ∀ u ∈ S.take i, u ∈ A'.map (·.1)) ?_ ⟨A, s4, rfl, B, hc, fun u hu => by cases hu⟩ (fun i u ρ1 hu hi => ?_) (fun ρ1 hi => ?_))
    · exact it_lst (e_app1 (at_map hc rfl rfl) (by rw [hN t (by rw [ht.1]; exact hm), hS]))
    · obtain ⟨A', s4, rfl, B', hc', hpre⟩ := hi
      have hlen' := B'.len hm
      have hnb := (hmem u).mp (List.mem_of_getElem? hu)
      refine ⟨_, rfl, ?_⟩
      refine wp_env (ρ' := [.val (tupI g), .own (.dic (dR A')), .own (.lst ((A'.map (·.1)).map tupI)), .val (.int c), .val (tupI u)]) rfl ?_
      have htk : S.take (i + 1) = S.take i ++ [u] := by rw [List.take_succ, hu]; rfl
      refine wp_ifD (q_cmp rfl rfl (dR_nin B'.nd)) (fun hn => ?_) (fun hn => ?_)
      · obtain ⟨B2, hc2⟩ := B'.add hc' hnb hn
        refine wp_seq (wp_subD (kvs := dR A') (q := tupI u) (p := .int ((d + 1 : Nat) : Int)) (e_eqI (e_add (dR_ix (dR_in B'.nd (List.mem_of_getElem? hc')) rfl (at_map hc' rfl rfl)) rfl) (by push_cast; rfl)) rfl rfl (isKey_int u) (by unfold dR; rw [List.length_map]; exact sz_of (by omega)) ?_)
        rw [dR_put hn]
        refine wp_env (ρ' := [.val (tupI g), .own (.dic (dR (A' ++ [(u, d + 1)]))), .own (.lst ((A'.map (·.1)).map tupI)), .val (.int c), .val (tupI u)]) rfl ?_
        refine wp_append (l := (A'.map (·.1)).map tupI) (p := tupI u) rfl rfl (by rw [List.length_map, List.length_map]; exact sz_of (by omega)) ⟨A' ++ [(u, d + 1)], .val (tupI u), ?_, B2, hc2, fun v hv => ?_⟩
        · rw [List.map_append, List.map_append]
          rfl
        · rw [htk] at hv
          rw [List.map_append]
          rcases List.mem_append.mp hv with hv | hv
          · exact List.mem_append_left _ (hpre v hv)
          · rw [List.mem_singleton.mp hv]
            exact List.mem_append_right _ List.mem_cons_self
      · refine wp_skip ⟨A', _, rfl, B', hc', fun v hv => ?_⟩
        rw [htk] at hv
        rcases List.mem_append.mp hv with hv | hv
        · exact hpre v hv
        · rw [List.mem_singleton.mp hv]
          exact Decidable.byContradiction hn
    · obtain ⟨A', s4, rfl, B', hc', hpre⟩ := hi
      rw [List.take_length] at hpre
      have hlen' := B'.len hm
      have B2 := B'.next hc' fun u hu => hpre u ((hmem u).mpr hu)
      refine wp_aug (p := .int c) (q := .int 1) (r := .int (c + 1)) rfl rfl rfl ⟨k - 1, by omega, A', c + 1, s4, rfl, B2, by omega⟩
  · have hb := of_decide_eq_false hb
    exact wp_ret rfl ⟨_, rfl, dR A, rfl, fun t ht => dR_in B.nd (B.fin (by omega) hm hg ht)⟩
end Pi

/-! k47: moves told, first moves, moves by own steps. -/
namespace Pi
open PySem PySem.Spec PyProof.Rows L2
def StepsOk (gS : List PV → Option PV) : Prop := ∀ (m : Nat) (g : Tw), m ≤ 5 → okT m g → ∃ R, gS [tupI g] = some (.dic R) ∧ ∀ t, okT m t → valP R (tupI t) = some (.int (dst g t : Nat))
theorem moves_run {gS : List PV → Option PV} (hS : StepsOk gS) {m : Nat} (hm : m ≤ 5) {a b : Tw} (ha : okT m a) (hb : okT m b) : runF (b_tower_moves gS) 2 [tupI a, tupI b] = some (.int (dst b a : Nat)) := by
  obtain ⟨R, e, h⟩ := hS m b hm hb
  exact run_of (wp_ret (dR_ix (h a ha) (e_app1 rfl e) rfl) (.inl rfl))
noncomputable def leads (a b : Tw) : List Tw := (sortR (nbL a)).filter fun u => decide (dst b u < dst b a)
theorem leads_ne {m : Nat} (hm : m ≤ 5) {a b : Tw} (ha : okT m a) (hb : okT m b) (hne : a ≠ b) : ∃ u l, leads a b = u :: l := by
  obtain ⟨u, hu, hd⟩ := dst_prev hm hb ha (fun z => hne z.symm)
  have : u ∈ leads a b := List.mem_filter.mpr ⟨(sortR_perm _).mem_iff.mpr hu, decide_eq_true (by omega)⟩
  cases h : leads a b with
  | nil => rw [h] at this; cases this
  | cons u l => exact ⟨u, l, rfl⟩
theorem leads_eq {m : Nat} (hm : m ≤ 5) {a b : Tw} (ha : okT m a) (hb : okT m b) : ((sortR (nbL a)).filter fun u => decide ((dst b u : Int) = (dst b a : Int) - 1)) = leads a b := by
  refine List.filter_congr fun u hu => ?_
  have := dst_near hm hb ha ((sortR_perm _).mem_iff.mp hu)
  rw [decide_eq_decide]
  omega
noncomputable def firstV (a b : Tw) : PV := if a = b then .non else tupI ((leads a b).headD [])
theorem eq_tw (a b : Tw) : cmpV .Eq (tupI a) (tupI b) = some (decide (a = b)) := eq_tups a b
theorem first_run {gS gN : List PV → Option PV} (hS : StepsOk gS) (hN : ∀ t : Tw, t.length ≤ 5 → gN [tupI t] = some (.lst ((sortR (nbL t)).map tupI))) {m : Nat} (hm : m ≤ 5) {a b : Tw} (ha : okT m a) (hb : okT m b) : runF (b_first_move gS gN) 4 [tupI a, tupI b] = some (firstV a b) := by
  obtain ⟨R, e, h⟩ := hS m b hm hb
  refine run_of (wp_seq (wp_ifD (q_cmp rfl rfl (eq_tw a b)) (fun he => wp_ret rfl ?_) (fun hne => wp_skip ?_)))
  · left
    unfold firstV
    rw [if_pos he]
  · refine wp_seq (wp_asgV (p := .dic R) (e_app1 rfl e) ?_)
    refine wp_env (ρ' := [.val (tupI a), .val (tupI b), .val (.dic R), .un]) rfl ?_
    obtain ⟨u, l, hl⟩ := leads_ne hm ha hb hne
    have hlen : (sortR (nbL a)).length ≤ 15 := by rw [(sortR_perm _).length_eq]; exact nb_len (by rw [ha.1]; exact hm)
    have c := e_cG (vs := [3]) (g := Pi.gN 3) (it := itOf (cApp gN [cVar 0])) (t := cCmpT CmpOp.Lt (cIx (cVarB 2) (cVarB 3)) (cIx (cVarB 2) (cVarB 0))) (f := cVar 3) (ρ := [.val (tupI a), .val (tupI b), .val (.dic R), .un]) (xs := sortR (nbL a)) tupI (fun u => decide (dst b u < dst b a)) tupI (it_lst (e_app1 rfl (hN a (by rw [ha.1]; exact hm)))) (fun u hu => by
      have hu := nb_ok ha ((sortR_perm _).mem_iff.mp hu)
      refine ⟨_, rfl, Eq.trans (q_lt (dR_ix (h u hu) rfl rfl) (dR_ix (h a ha) rfl rfl)) ?_, fun _ => rfl⟩
      congr 1
      rw [decide_eq_decide]
      omega) (by omega)
    rw [show (sortR (nbL a)).filter (fun u => decide (dst b u < dst b a)) = u :: l from hl] at c
    have hx : ixV (.lst ((u :: l).map tupI)) (.int ((0 : Nat) : Int)) = some (tupI u) := by
      show atI _ _ = _
      exact atI_nat rfl
    refine wp_ret (e_ix (p := .lst ((u :: l).map tupI)) c rfl hx) (.inl ?_)
    unfold firstV
    rw [if_neg hne, hl]
    rfl
/-! ### not too far -/
theorem hp_lt : ∀ (l : List Int) (b : Int), hp l b < 2 ^ l.length
  | [], _ => by show 0 < 1; decide
  | x :: l, b => by
    unfold hp
    rw [List.length_cons, Nat.pow_succ]
    have h1 := hp_lt l b
    have h2 := hp_lt l (3 - x - b)
    split <;> omega
theorem W_rep {m : Nat} (hm : m ≤ 5) {b : Int} (h0 : 0 ≤ b) (h1 : b < 3) {t : Tw} (ht : okT m t) : ∃ k, k < 2 ^ m ∧ W (List.replicate m b) k t := by
  have hb : b ∈ pegs := pegs_mem.mpr ⟨h0, h1⟩
  have c := List.all_eq_true.mp (List.all_eq_true.mp cert_peg m (List.mem_range.mpr (by omega))) b hb
  have w := (cert_isD (rep_ok h0 h1) c ht).1
  refine ⟨_, ?_, w⟩
  have := hp_lt t.reverse b
  rw [List.length_reverse, ht.1] at this
  exact this
theorem ok_last {m : Nat} {t : Tw} (h : okT (m + 1) t) : ∃ s p, t = s ++ [p] ∧ okT m s ∧ 0 ≤ p ∧ p < 3 := by
  rcases List.eq_nil_or_concat t with rfl | ⟨s, p, rfl⟩
  · exact absurd h.1 (by simp)
  · have h1 := h.1
    rw [List.concat_eq_append, List.length_append, List.length_singleton] at h1
    have hp := h.2 p (by rw [List.concat_eq_append]; simp)
    refine ⟨s, p, List.concat_eq_append, ⟨by omega, fun x hx => h.2 x (by rw [List.concat_eq_append]; simp [hx])⟩, hp.1, hp.2⟩
theorem rep_nb {m : Nat} {r p q : Int} (hp : 0 ≤ q ∧ q < 3) (h1 : p ≠ r) (h2 : q ≠ r) (h3 : q ≠ p) : (List.replicate m r ++ [q]) ∈ nbL (List.replicate m r ++ [p]) := by
  have hl : (List.replicate m r).length = m := List.length_replicate
  have ht : (List.replicate m r ++ [p]).take m = List.replicate m r := by
    have := List.take_left (l₁ := List.replicate m r) (l₂ := [p])
    rwa [hl] at this
  have hg : (List.replicate m r ++ [p]).getD m 0 = p := by
    rw [List.getD_eq_getElem?_getD, List.getElem?_append_right (by omega), hl, Nat.sub_self]
    rfl
  refine nb_mem.mpr ⟨m, q, by simp, hp.1, hp.2, ?_, ?_, ?_, ?_⟩
  · rw [hg, ht]
    exact fun z => h1 (List.mem_replicate.mp z).2
  · rw [hg]; exact h3
  · rw [ht]
    exact fun z => h2 (List.mem_replicate.mp z).2
  · unfold mv
    rw [ht, List.drop_of_length_le (by simp), List.append_nil]
theorem W_lt : ∀ {m : Nat}, m ≤ 5 → ∀ {s t : Tw}, okT m s → okT m t → ∃ k, k < 2 ^ m ∧ W s k t
  | 0, _, s, t, hs, ht => by
    rw [List.length_eq_zero_iff.mp hs.1, List.length_eq_zero_iff.mp ht.1]
    exact ⟨0, by decide, .zero⟩
  | m + 1, hm, s, t, hs, ht => by
    obtain ⟨s, p, rfl, hs', p0, p1⟩ := ok_last hs
    obtain ⟨t, q, rfl, ht', q0, q1⟩ := ok_last ht
    by_cases e : p = q
    · subst e
      obtain ⟨k, hk, w⟩ := W_lt (by omega) hs' ht'
      exact ⟨k, by rw [Nat.pow_succ]; omega, ext_W w⟩
    · have r0 : 0 ≤ 3 - p - q ∧ 3 - p - q < 3 := by omega
      obtain ⟨k1, h1, w1⟩ := W_rep (by omega) r0.1 r0.2 hs'
      obtain ⟨k2, h2, w2⟩ := W_rep (by omega) r0.1 r0.2 ht'
      have w1 := ext_W (p := p) (w1.symm (rep_ok r0.1 r0.2))
      have w2 := ext_W (p := q) w2
      have w3 := W.trans (W.step w1 (rep_nb (p := p) (q := q) ⟨q0, q1⟩ (by omega) (by omega) (fun z => e z.symm))) w2
      exact ⟨_, by rw [Nat.pow_succ]; omega, w3⟩
theorem dst_lt {m : Nat} (hm : m ≤ 5) {s t : Tw} (hs : okT m s) (ht : okT m t) : dst s t < 2 ^ m := by
  obtain ⟨k, hk, w⟩ := W_lt hm hs ht
  exact Nat.lt_of_le_of_lt ((dst_isD hm hs ht).2 k w) hk
end Pi

/-! k47: moves by own steps. -/
namespace Pi
open PySem PySem.Spec PyProof.Rows L2
theorem nb_nd_all : ((List.range 4).all fun m => (allT m).all fun t => decide (nbL t).Nodup) = true := by decide +kernel
theorem nb_nd {m : Nat} (hm : m ≤ 3) {t : Tw} (h : okT m t) : (nbL t).Nodup :=
  of_decide_eq_true (List.all_eq_true.mp (List.all_eq_true.mp nb_nd_all m (List.mem_range.mpr (by omega))) t (allT_mem.mpr h))
theorem tw_len {m : Nat} (hm : m ≤ 5) {L : List Tw} (nd : L.Nodup) (h : ∀ t ∈ L, okT m t) : L.length ≤ 243 :=
  Nat.le_trans (nd_len (m := allT m) nd fun x hx => allT_mem.mpr (h x hx)) (of_decide_eq_true (List.all_eq_true.mp allT_len m (List.mem_range.mpr (by omega))))
/-- the state of the level -/
structure Lv (m : Nat) (s : Tw) (j : Nat) (N M : List Tw) : Prop where
  nn : N.Nodup
  mn : M.Nodup
  near : ∀ t, t ∈ N ↔ okT m t ∧ dst s t = j
  met : ∀ t, t ∈ M ↔ okT m t ∧ dst s t ≤ j
/-- the state of the next level as it grows -/
structure Gr (m : Nat) (s : Tw) (j : Nat) (N L : List Tw) (i : Nat) : Prop where
  nd : L.Nodup
  ok : ∀ t ∈ L, okT m t ∧ dst s t = j + 1
  all : ∀ u ∈ N.take i, ∀ t ∈ nbL u, dst s t = j + 1 → t ∈ L
theorem Gr.next {m : Nat} (hm : m ≤ 3) {s : Tw} (hs : okT m s) {j : Nat} {N M L : List Tw} {i : Nat} (V : Lv m s j N M) (G : Gr m s j N L i) {u : Tw} (hu : N[i]? = some u) : Gr m s j N (L ++ (sortR (nbL u)).filter fun t => decide (t ∉ M) && decide (t ∉ L)) (i + 1) := by
  obtain ⟨ou, du⟩ := (V.near u).mp (List.mem_of_getElem? hu)
  have hmem : ∀ t, t ∈ sortR (nbL u) ↔ t ∈ nbL u := fun t => (sortR_perm _).mem_iff
  have hnd : (sortR (nbL u)).Nodup := (sortR_perm _).nodup_iff.mpr (nb_nd hm ou)
  refine ⟨List.nodup_append.mpr ⟨G.nd, hnd.filter _, fun x hx y hy e => ?_⟩, fun t ht => ?_, fun v hv t ht hd => ?_⟩
  · subst e
    have := (List.mem_filter.mp hy).2
    simp only [Bool.and_eq_true, decide_eq_true_eq] at this
    exact this.2 hx
  · rcases List.mem_append.mp ht with ht | ht
    · exact G.ok t ht
    · obtain ⟨h1, h2⟩ := List.mem_filter.mp ht
      simp only [Bool.and_eq_true, decide_eq_true_eq] at h2
      have h1 := (hmem t).mp h1
      have ot := nb_ok ou h1
      have h3 := dst_near (by omega) hs ot (nb_sym ou h1)
      have h4 : ¬dst s t ≤ j := fun z => h2.1 ((V.met t).mpr ⟨ot, z⟩)
      exact ⟨ot, by omega⟩
  · rw [List.take_succ, hu] at hv
    rcases List.mem_append.mp hv with hv | hv
    · exact List.mem_append_left _ (G.all v hv t ht hd)
    · have : v = u := by simpa using hv
      subst this
      by_cases h : t ∈ L
      · exact List.mem_append_left _ h
      · refine List.mem_append_right _ (List.mem_filter.mpr ⟨(hmem t).mpr ht, ?_⟩)
        simp only [Bool.and_eq_true, decide_eq_true_eq]
        exact ⟨fun z => by have := ((V.met t).mp z).2; omega, h⟩
theorem Gr.done {m : Nat} (hm : m ≤ 3) {s : Tw} (hs : okT m s) {j : Nat} {N M L : List Tw} (V : Lv m s j N M) (G : Gr m s j N L N.length) : Lv m s (j + 1) L (M ++ L) := by
  have near : ∀ t, t ∈ L ↔ okT m t ∧ dst s t = j + 1 := fun t => ⟨G.ok t, fun ⟨ot, hd⟩ => by
    have hne : s ≠ t := fun z => by
      have := (dst_zero (by omega) hs ot).mpr z
      omega
    obtain ⟨u, hu, h⟩ := dst_prev (by omega) hs ot hne
    have ou := nb_ok ot hu
    refine G.all u ?_ t (nb_sym ot hu) hd
    rw [List.take_length]
    exact (V.near u).mpr ⟨ou, by omega⟩⟩
  refine ⟨G.nd, List.nodup_append.mpr ⟨V.mn, G.nd, fun x hx y hy e => ?_⟩, near, fun t => ?_⟩
  · subst e
    have h1 := ((V.met x).mp hx).2
    have h2 := (G.ok x hy).2
    omega
  · rw [List.mem_append, V.met, near]
    constructor
    · rintro (⟨h1, h2⟩ | ⟨h1, h2⟩)
      · exact ⟨h1, by omega⟩
      · exact ⟨h1, by omega⟩
    · rintro ⟨h1, h2⟩
      by_cases h : dst s t ≤ j
      · exact .inl ⟨h1, h⟩
      · exact .inr ⟨h1, by omega⟩
theorem Lv.start {m : Nat} (hm : m ≤ 3) {s : Tw} (hs : okT m s) : Lv m s 0 [s] [s] := by
  have k : ∀ t, t ∈ [s] ↔ okT m t ∧ dst s t = 0 := fun t => by
    rw [List.mem_singleton]
    constructor
    · rintro rfl
      exact ⟨hs, (dst_zero (by omega) hs hs).mpr rfl⟩
    · rintro ⟨ot, h⟩
      exact ((dst_zero (by omega) hs ot).mp h).symm
  exact ⟨by simp, by simp, k, fun t => by rw [k t, Nat.le_zero]⟩
theorem lmoves_run {gN : List PV → Option PV} (hN : ∀ t : Tw, t.length ≤ 5 → gN [tupI t] = some (.lst ((sortR (nbL t)).map tupI))) {m : Nat} (hm : m ≤ 3) {s t : Tw} (hs : okT m s) (ht : okT m t) : runF (b_law_moves gN) 9 [tupI s, tupI t] = some (.int (dst s t : Nat)) := by
  have hlt := dst_lt (by omega) hs ht
  have h8 : 2 ^ m ≤ 2 ^ 3 := Nat.pow_le_pow_right (by decide) hm
  refine run_of (wp_seq (wp_row (ps := [.lst ([s].map tupI), .lst ([s].map tupI), .int 0]) (evs3 rfl rfl rfl) (sz_le (n := 3) (by decide)) rfl ?_))
  refine wp_env (ρ' := [.val (tupI s), .val (tupI t), .own (.lst ([s].map tupI)), .own (.lst ([s].map tupI)), .val (.int 0), .un, .un, .un, .un]) rfl ?_
  refine wp_seq (wp_forN (n := 2 ^ m) (fun i ρ => ∃ (j : Nat) (N M : List Tw) (s2 s5 s6 s7 s8 : Sl), ρ = [.val (tupI s), .val (tupI t), s2, .own (.lst (M.map tupI)), .val (.int j), s5, s6, s7, s8] ∧ (s2 = .own (.lst (N.map tupI)) ∨ s2 = .val (.lst (N.map tupI))) ∧ Lv m s j N M ∧ j ≤ dst s t ∧ (j = i ∨ j = dst s t))
    (e_eqI (e_shl (n := m) rfl (e_eqI (e_lenT (ns := s) rfl) (by rw [hs.1])) (by decide) (by omega)) (by push_cast; rw [Int.one_mul])) (by omega) ⟨0, [s], [s], _, _, _, _, _, rfl, .inl rfl, .start hm hs, Nat.zero_le _, .inl rfl⟩ (fun i ρ1 hlt' hi => ?_) (fun ρ1 hi => ?_))
  · obtain ⟨j, N, M, s2, s5, s6, s7, s8, rfl, h2, V, hj, hor⟩ := hi
    have v2 : ∀ {s5 s6 s7 s8 : Sl}, cVarB 2 [.val (tupI s), .val (tupI t), s2, .own (.lst (M.map tupI)), .val (.int j), s5, s6, s7, s8] = some (.lst (N.map tupI)) := by rcases h2 with rfl | rfl <;> exact rfl
    refine ⟨_, rfl, wp_ifD (q_cmp rfl v2 (nin_rows t N)) (fun hn => ?_) (fun hn => ?_)⟩
    · have hne : j ≠ dst s t := fun z => hn ((V.near t).mpr ⟨ht, z.symm⟩)
      have hji : j = i := hor.resolve_right hne
      refine wp_seq (wp_asgF (p := .lst []) rfl ?_)
      refine wp_seq (wp_fz ?_)
      refine wp_env (ρ' := [.val (tupI s), .val (tupI t), .val (.lst (N.map tupI)), .own (.lst (M.map tupI)), .val (.int j), .val (.int i), .own (.lst (([] : List Tw).map tupI)), s7, s8]) (by rcases h2 with rfl | rfl <;> rfl) ?_
      have hN1 := tw_len (by omega) V.nn fun x hx => ((V.near x).mp hx).1
      have hM1 := tw_len (by omega) V.mn fun x hx => ((V.met x).mp hx).1
      refine wp_forL (xs := N) tupI (fun k ρ => ∃ (L : List Tw) (s7 s8 : Sl), ρ = [.val (tupI s), .val (tupI t), .val (.lst (N.map tupI)), .own (.lst (M.map tupI)), .val (.int j), .val (.int i), .own (.lst (L.map tupI)), s7, s8] ∧ Gr m s j N L k) (it_lst rfl) ⟨[], s7, s8, rfl, List.nodup_nil, fun t h => (by cases h), fun u h => (by cases h)⟩ (fun k u ρ1 hu hi => ?_) (fun ρ1 hi => ?_)
      · obtain ⟨L, s7, s8, rfl, G⟩ := hi
        have ou := ((V.near u).mp (List.mem_of_getElem? hu)).1
        have hL := tw_len (by omega) G.nd fun x hx => (G.ok x hx).1
        have hnl : (sortR (nbL u)).length ≤ 15 := by rw [(sortR_perm _).length_eq]; exact nb_len (by rw [ou.1]; omega)
        have G2 := G.next hm hs V hu
        refine ⟨_, rfl, ?_⟩
        refine wp_env (ρ' := [.val (tupI s), .val (tupI t), .val (.lst (N.map tupI)), .own (.lst (M.map tupI)), .val (.int j), .val (.int i), .own (.lst (L.map tupI)), .val (tupI u), s8]) rfl ?_
        refine wp_ext (l := L.map tupI) (m := ((sortR (nbL u)).filter fun t => decide (t ∉ M) && decide (t ∉ L)).map tupI) rfl (e_cG (xs := sortR (nbL u)) tupI (fun t => decide (t ∉ M) && decide (t ∉ L)) tupI (it_lst (e_app1 rfl (hN u (by rw [ou.1]; omega)))) (fun v hv => ⟨_, rfl, q_and (q_cmp rfl rfl (nin_rows v M)) (fun _ => q_cmp rfl rfl (nin_rows v L)), fun _ => rfl⟩) (by omega)) ?_ ⟨L ++ (sortR (nbL u)).filter fun t => decide (t ∉ M) && decide (t ∉ L), .val (tupI u), s8, ?_, G2⟩
        · rw [List.length_map, List.length_map]
          have := List.length_filter_le (fun t => decide (t ∉ M) && decide (t ∉ L)) (sortR (nbL u))
          omega
        · rw [List.map_append]
          rfl
      · obtain ⟨L, s7, s8, rfl, G⟩ := hi
        have hL := tw_len (by omega) G.nd fun x hx => (G.ok x hx).1
        have V2 := G.done hm hs V
        refine wp_fz ?_
        refine wp_env (ρ' := [.val (tupI s), .val (tupI t), .val (.lst (N.map tupI)), .own (.lst (M.map tupI)), .val (.int j), .val (.int i), .val (.lst (L.map tupI)), s7, s8]) rfl ?_
        refine wp_row (ps := [.lst (L.map tupI), .lst ((M ++ L).map tupI), .int (j + 1)]) (evs3 rfl ?_ rfl) (sz_le (n := 3) (by decide)) rfl ⟨j + 1, L, M ++ L, _, _, _, _, _, rfl, .inr rfl, V2, by omega, .inl (by omega)⟩
        have := e_catl (f := cVarB 3) (g := cVarB 6) (ρ := [.val (tupI s), .val (tupI t), .val (.lst (N.map tupI)), .own (.lst (M.map tupI)), .val (.int j), .val (.int i), .val (.lst (L.map tupI)), s7, s8]) (l := M.map tupI) (m := L.map tupI) rfl rfl (by rw [List.length_map, List.length_map]; exact sz_le (by omega))
        rw [this, List.map_append]
    · have hm' := Decidable.byContradiction hn
      have := ((V.near t).mp hm').2
      exact wp_skip ⟨j, N, M, s2, _, _, _, _, rfl, h2, V, hj, .inr this.symm⟩
  · obtain ⟨j, N, M, s2, s5, s6, s7, s8, rfl, h2, V, hj, hor⟩ := hi
    have : j = dst s t := by
      rcases hor with h | h <;> omega
    subst this
    exact wp_ret rfl (.inl rfl)
end Pi

/-! k47: the towers are right. -/
namespace Pi
open PySem PySem.Spec PyProof.Rows L2
def six : List (List Int) := [[0, 1, 2], [0, 2, 1], [1, 0, 2], [1, 2, 0], [2, 0, 1], [2, 1, 0]]
def nu (l : List Int) (x : Int) : Int := l.getD x.toNat 0
def mu (l : List Int) (x : Int) : Int := (l.idxOf x : Nat)
theorem six_all : (six.all fun l => decide (l.length = 3) && (pegs.all fun x => decide (0 ≤ nu l x ∧ nu l x < 3 ∧ 0 ≤ mu l x ∧ mu l x < 3 ∧ mu l (nu l x) = x) && pegs.all fun y => (!decide (nu l x = nu l y) || decide (x = y)) && (!decide (mu l x = mu l y) || decide (x = y)))) = true := by decide +kernel
theorem six_ok {l : List Int} (h : l ∈ six) : l.length = 3 ∧ Nm (nu l) ∧ Nm (mu l) ∧ ∀ x, 0 ≤ x → x < 3 → mu l (nu l x) = x := by
  have q := List.all_eq_true.mp six_all l h
  rw [Bool.and_eq_true, decide_eq_true_eq, List.all_eq_true] at q
  obtain ⟨q1, q2⟩ := q
  have k : ∀ x, 0 ≤ x → x < 3 → (0 ≤ nu l x ∧ nu l x < 3 ∧ 0 ≤ mu l x ∧ mu l x < 3 ∧ mu l (nu l x) = x) ∧ ∀ y, 0 ≤ y → y < 3 → (nu l x = nu l y → x = y) ∧ (mu l x = mu l y → x = y) := fun x h0 h1 => by
    have z := q2 x (pegs_mem.mpr ⟨h0, h1⟩)
    rw [Bool.and_eq_true, decide_eq_true_eq, List.all_eq_true] at z
    refine ⟨z.1, fun y h2 h3 => ?_⟩
    have w := z.2 y (pegs_mem.mpr ⟨h2, h3⟩)
    simp only [Bool.and_eq_true, Bool.or_eq_true, Bool.not_eq_true', decide_eq_false_iff_not, decide_eq_true_eq] at w
    exact ⟨fun e => w.1.resolve_left fun z => z e, fun e => w.2.resolve_left fun z => z e⟩
  exact ⟨q1, ⟨fun x y a b c d e => ((k x a b).2 y c d).1 e, fun x a b => ⟨(k x a b).1.1, (k x a b).1.2.1⟩⟩, ⟨fun x y a b c d e => ((k x a b).2 y c d).2 e, fun x a b => ⟨(k x a b).1.2.2.1, (k x a b).1.2.2.2.1⟩⟩, fun x a b => (k x a b).1.2.2.2.2⟩
theorem nu_ix {l : List Int} (hl : l.length = 3) {x : Int} (h0 : 0 ≤ x) (h1 : x < 3) {f g : Cl} {ρ : En} (hf : f ρ = some (tupI l)) (hg : g ρ = some (.int x)) : cIx f g ρ = some (.int (nu l x)) := by
  obtain ⟨i, rfl⟩ : ∃ i : Nat, x = i := ⟨x.toNat, by omega⟩
  exact e_ix hf hg (ixD (by omega))
theorem tw_ix {xs : List Tw} {i : Nat} {u : Tw} (h : xs[i]? = some u) {f g : Cl} {ρ : En} {p : PV} (hf : f ρ = some p) (hp : p = .lst (xs.map tupI)) (hg : g ρ = some (.int i)) : cIx f g ρ = some (tupI u) := by
  subst hp
  refine e_ix hf hg ?_
  show atI _ _ = _
  refine atI_nat ?_
  rw [List.getElem?_map, h]
  rfl
theorem ne_bl {f g : Cl} {ρ : En} {b c : Bool} (hf : f ρ = some (.bl b)) (hg : g ρ = some (.bl c)) (e : b = c) : cCmpT .NotEq f g ρ = some false := by
  subst e
  exact q_cmp hf hg (by cases b <;> rfl)
def MovesOk (gM : List PV → Option PV) : Prop := ∀ (m : Nat) (a b : Tw), m ≤ 5 → okT m a → okT m b → gM [tupI a, tupI b] = some (.int (dst b a : Nat))
theorem towers_run {gM gI gL gLm gF gN : List PV → Option PV} (hM : MovesOk gM) (hI : ∀ x : Int, gI [.int x] = some (.bl true)) (hL : ∀ p, plainD 2 p = true → gL [p, p] = some (.bl true))
    (hLm : ∀ (m : Nat) (a b : Tw), m ≤ 3 → okT m a → okT m b → gLm [tupI a, tupI b] = some (.int (dst a b : Nat)))
    (hF : ∀ (m : Nat) (a b : Tw), m ≤ 5 → okT m a → okT m b → gF [tupI a, tupI b] = some (firstV a b))
    (hN : ∀ t : Tw, t.length ≤ 5 → gN [tupI t] = some (.lst ((sortR (nbL t)).map tupI)))
    {m : Nat} (hm : m ≤ 5) {a b c : Tw} (ha : okT m a) (hb : okT m b) (hc : okT m c) {l : List Int} (hl : l ∈ six) : runF (b_law_towers_right gM gI gL gLm gF gN) 10 [tupI a, tupI b, tupI c, tupI l] = some (.bl true) := by
  obtain ⟨l3, N, M, inv⟩ := six_ok hl
  have hz := dst_zero hm hb ha
  have hsy := dst_symm hm ha hb
  refine run_of (wp_seq (wp_asgV (p := .int (dst b a : Nat)) (e_app2 rfl rfl (hM m a b hm ha hb)) ?_))
  refine wp_env (ρ' := [.val (tupI a), .val (tupI b), .val (tupI c), .val (tupI l), .val (.int (dst b a : Nat)), .un, .un, .un, .un, .un]) rfl ?_
  refine wp_seq (wp_no (q_orF (q_notF (q_truB (e_app1 rfl (hI _)))) (q_orF (ne_bl (e_cmp rfl rfl rfl) (e_cmp rfl rfl (eq_tw a b)) ?_) (q_like (p := .int (dst b a : Nat)) (e_app2 rfl rfl (by rw [hM m b a hm hb ha, hsy])) rfl (hL _ rfl)))) ?_)
  · rw [decide_eq_decide]
    constructor
    · intro h
      exact (hz.mp (by omega)).symm
    · intro h
      have := hz.mpr h.symm
      omega
  refine wp_seq (wp_no (q_andF (q_lt (e_lenT (ns := a) rfl) rfl) fun h4 => ?_) ?_)
  · have h4 := of_decide_eq_true h4
    have := ha.1
    exact q_like (p := .int (dst b a : Nat)) rfl (e_app2 rfl rfl (by rw [hLm m a b (by omega) ha hb, hsy])) (hL _ rfl)
  refine wp_seq (wp_asgF (p := .lst ([a.map (nu l), b.map (nu l)].map tupI)) ?_ ?_)
  · refine Eq.trans (e_cM (xs := [a, b]) tupI (fun t => tupI (t.map (nu l))) (it_tup (e_tup2 rfl rfl)) (fun t ht => ?_) (by show 2 ≤ 1000; decide)) rfl
    have ot : okT m t := by
      rcases List.mem_cons.mp ht with rfl | ht
      · exact ha
      · rw [List.mem_singleton.mp ht]; exact hb
    refine ⟨_, rfl, e_app1 (p := .lst ((t.map (nu l)).map .int)) ?_ rfl⟩
    refine Eq.trans (e_cM (xs := t) .int (fun x => .int (nu l x)) (it_tup rfl) (fun x hx => ⟨_, rfl, nu_ix l3 (ot.2 x hx).1 (ot.2 x hx).2 rfl rfl⟩) (by rw [ot.1]; omega)) (by rw [List.map_map]; rfl)
  refine wp_env (ρ' := [.val (tupI a), .val (tupI b), .val (tupI c), .val (tupI l), .val (.int (dst b a : Nat)), .own (.lst ([a.map (nu l), b.map (nu l)].map tupI)), .un, .un, .un, .un]) rfl ?_
  have hren : dst (b.map (nu l)) (a.map (nu l)) = dst b a := N.dst M inv hm hb ha
  refine wp_seq (wp_no (q_like (p := .int (dst b a : Nat)) (e_app2 (tw_ix (xs := [a.map (nu l), b.map (nu l)]) (i := 0) rfl rfl rfl rfl) (tw_ix (xs := [a.map (nu l), b.map (nu l)]) (i := 1) rfl rfl rfl rfl) (by rw [hM m _ _ hm (N.okT ha) (N.okT hb), hren])) rfl (hL _ rfl)) ?_)
  have htri := dst_tri hm hb hc ha
  refine wp_seq (wp_no (Eq.trans (q_lt (e_add (e_app2 rfl rfl (hM m a c hm ha hc)) (e_app2 rfl rfl (hM m c b hm hc hb))) rfl) ?_) ?_)
  · rw [decide_eq_false (by omega)]
  have n0 := N.ok 0 (by decide) (by decide)
  refine wp_seq (wp_no (q_andF (q_lt (e_lenT (ns := a) rfl) rfl) fun h5 => ?_) ?_)
  · have h5 := of_decide_eq_true h5
    have hla := ha.1
    have hlb := hb.1
    have h0 : ∀ {ρ : En}, cVarB 3 ρ = some (tupI l) → cTup [cIx (cVarB 3) (cK (.int 0))] ρ = some (tupI [nu l 0]) := fun {ρ} h => e_tup1 (nu_ix l3 (by decide) (by decide) h rfl)
    refine q_like (p := .int (dst b a : Nat)) (e_app2 (e_catI (l := a) (m := [nu l 0]) rfl (h0 rfl) (by simp; omega)) (e_catI (l := b) (m := [nu l 0]) rfl (h0 rfl) (by simp; omega)) ?_) rfl (hL _ rfl)
    rw [show ((a ++ [nu l 0]).map PV.int) = (a ++ [nu l 0]).map .int from rfl]
    refine Eq.trans (hM (m + 1) (a ++ [nu l 0]) (b ++ [nu l 0]) (by omega) (ext_ok ha n0.1 n0.2) (ext_ok hb n0.1 n0.2)) ?_
    rw [dst_ext (by omega) hb ha n0.1 n0.2]
  refine wp_seq (wp_asgV (p := firstV a b) (e_app2 rfl rfl (hF m a b hm ha hb)) ?_)
  refine wp_env (ρ' := [.val (tupI a), .val (tupI b), .val (tupI c), .val (tupI l), .val (.int (dst b a : Nat)), .own (.lst ([a.map (nu l), b.map (nu l)].map tupI)), .un, .un, .val (firstV a b), .un]) rfl ?_
  refine wp_seq (wp_ifD (q_cmp rfl rfl (eq_tw a b)) (fun he => wp_ret (e_cmp (p := .non) (q := .non) ?_ rfl rfl) (.inl rfl)) (fun hne => wp_skip ?_))
  · show some (firstV a b) = _
    unfold firstV
    rw [if_pos he]
  have hlen : (sortR (nbL a)).length ≤ 15 := by rw [(sortR_perm _).length_eq]; exact nb_len (by rw [ha.1]; exact hm)
  obtain ⟨u, us, hu⟩ := leads_ne hm ha hb hne
  have hfv : firstV a b = tupI u := by
    unfold firstV
    rw [if_neg hne, hu]
    rfl
  have hul : u.length ≤ 5 := by
    have : u ∈ leads a b := by rw [hu]; exact List.mem_cons_self
    have := nb_ok ha ((sortR_perm _).mem_iff.mp (List.mem_filter.mp this).1)
    rw [this.1]; exact hm
  rw [hfv]
  refine wp_seq (wp_asgF (p := .lst ((u :: us).map tupI)) ?_ ?_)
  · have e := e_cG (vs := [6]) (g := Pi.gN 6) (it := itOf (cApp gN [cVar 0])) (t := cCmpT CmpOp.Eq (cApp gM [cVar 6, cVar 1]) (cBin Operator.Sub (cVarB 4) (cK (PV.int 1)))) (f := cVar 6) (ρ := [.val (tupI a), .val (tupI b), .val (tupI c), .val (tupI l), .val (.int (dst b a : Nat)), .own (.lst ([a.map (nu l), b.map (nu l)].map tupI)), .un, .un, .val (tupI u), .un]) (xs := sortR (nbL a)) tupI (fun u => decide ((dst b u : Int) = (dst b a : Int) - 1)) tupI (it_lst (e_app1 rfl (hN a (by rw [ha.1]; exact hm)))) (fun v hv => by
      have hv := nb_ok ha ((sortR_perm _).mem_iff.mp hv)
      exact ⟨_, rfl, q_eq (e_app2 rfl rfl (hM m v b hm hv hb)) (e_sub rfl rfl), fun _ => rfl⟩) (by omega)
    rw [leads_eq hm ha hb, hu] at e
    exact e
  refine wp_env (ρ' := [.val (tupI a), .val (tupI b), .val (tupI c), .val (tupI l), .val (.int (dst b a : Nat)), .own (.lst ([a.map (nu l), b.map (nu l)].map tupI)), .un, .un, .val (tupI u), .own (.lst ((u :: us).map tupI))]) rfl ?_
  refine wp_ret (e_andB (x := true) (y := true) (e_cmp (p := .int ((us.length + 1 : Nat) : Int)) (q := .int 0) (e_len rfl ?_) rfl ?_) fun _ => e_app2 rfl (tw_ix (xs := u :: us) (i := 0) rfl rfl rfl rfl) (hL _ (plain_up (plain_tupI u (by omega))))) (.inl rfl)
  · show some (((u :: us).map tupI).length : Int) = _
    rw [List.length_map, List.length_cons]
  · show some (decide ((0 : Int) < _)) = _
    rw [decide_eq_true (by omega)]
end Pi

/-! k47: the law. -/
namespace Pi
open PySem PySem.Spec PyProof.Rows L2
theorem rep_flat (x : PV) : ∀ n : Nat, (List.replicate n [x]).flatten = List.replicate n x
  | 0 => rfl
  | n + 1 => by
    rw [List.replicate_succ, List.flatten_cons, rep_flat x n, List.replicate_succ]
    rfl
theorem e_repI {f g : Cl} {ρ : En} {x : Int} {m : Nat} (hf : f ρ = some (tupI [x])) (hg : g ρ = some (.int m)) (h1 : 1 ≤ m) (h2 : m ≤ 1000) : cBin .Mult f g ρ = some (tupI (List.replicate m x)) := e_bin hf hg (by
  show (if (decide ((1 : Int) ≤ (m : Int)) && decide ((m : Int) ≤ 1000) && decide (0 < 1) && decide (1 ≤ 1000)) = true then some (PV.tup (List.replicate (m : Int).toNat [PV.int x]).flatten) else none) = _
  rw [if_pos (by simp only [Bool.and_eq_true, decide_eq_true_eq]; omega), Int.toNat_natCast, rep_flat]
  show some (PV.tup _) = some (PV.tup (List.map _ _))
  rw [List.map_replicate])
def twr (l : List PV) (m : Nat) (at' : Int) : Tw := (List.range m).map fun k : Nat => rv l (at'.toNat + k) % 3
theorem twr_ok {l : List PV} {m : Nat} {at' : Int} : okT m (twr l m at') := ⟨by unfold twr; rw [List.length_map, List.length_range], fun x hx => by
  obtain ⟨k, _, rfl⟩ := List.mem_map.mp hx
  omega⟩
theorem law_run {gR gW gT gL gM : List PV → Option PV} {ns : List Int}
    (hR : ∃ r, gR [.scr (ns.map .int), .int 24] = some r ∧ ∃ l, r = .lst l ∧ l.length = 24 ∧ ∀ p ∈ l, RowN p)
    (hW : ∀ n x y : Nat, 1 ≤ n → n ≤ 9 → x < 2 ^ n → y < 2 ^ n → gW [.int n, .int x, .int y] = some (.bl true))
    (hT : ∀ (m : Nat) (a b c : Tw) (l : List Int), m ≤ 5 → okT m a → okT m b → okT m c → l ∈ six → gT [tupI a, tupI b, tupI c, tupI l] = some (.bl true))
    (hM : MovesOk gM) (hL : ∀ p, plainD 2 p = true → gL [p, p] = some (.bl true)) :
    runF (b_law gR gW gT gL gM) 10 [.scr (ns.map .int)] = some (.bl true) := by
  obtain ⟨_, hR, l, rfl, hl, hr⟩ := hR
  refine run_of (wp_seq (wp_asgV (e_app2 rfl rfl hR) ?_))
  refine wp_env (ρ' := [.val (.scr (ns.map .int)), .val (.lst l), .un, .un, .un, .un, .un, .un, .un, .un]) rfl ?_
  have x0 := (row_get hr (i := 0) (by omega)).2
  obtain ⟨n, en⟩ : ∃ n : Nat, (1 : Int) + rv l 0 % 9 = n := ⟨(1 + rv l 0 % 9).toNat, by omega⟩
  have n1 : 1 ≤ n := by omega
  have n9 : n ≤ 9 := by omega
  refine wp_seq (wp_asgF (p := .int n) (e_eqI (e_add rfl (e_mod (e_row (i := 0) hr rfl rfl rfl (by omega)) rfl (by decide))) en) ?_)
  refine wp_env (ρ' := [.val (.scr (ns.map .int)), .val (.lst l), .val (.int n), .un, .un, .un, .un, .un, .un, .un]) rfl ?_
  have hp := Nat.two_pow_pos n
  have pc : (1 : Int) * 2 ^ n = ((2 ^ n : Nat) : Int) := by push_cast; rw [Int.one_mul]
  have nat_of : ∀ i : Nat, ∃ x : Nat, rv l i % ((2 ^ n : Nat) : Int) = x ∧ x < 2 ^ n := fun i => by
    have h1 := Int.emod_nonneg (rv l i) (show ((2 ^ n : Nat) : Int) ≠ 0 by omega)
    have h2 := Int.emod_lt_of_pos (rv l i) (show (0 : Int) < ((2 ^ n : Nat) : Int) by omega)
    exact ⟨(rv l i % ((2 ^ n : Nat) : Int)).toNat, by omega, by omega⟩
  obtain ⟨x, ex, hx⟩ := nat_of 1
  obtain ⟨y, ey, hy⟩ := nat_of 2
  refine wp_seq (wp_no (q_notF (q_truB (e_app3 rfl (e_eqI (e_mod (e_row (i := 1) hr rfl rfl rfl (by omega)) (e_eqI (e_shl (n := n) rfl rfl (by decide) (by omega)) pc) (by omega)) ex) (e_eqI (e_mod (e_row (i := 2) hr rfl rfl rfl (by omega)) (e_eqI (e_shl (n := n) rfl rfl (by decide) (by omega)) pc) (by omega)) ey) (hW n x y n1 n9 hx hy)))) ?_)
  have x3 := (row_get hr (i := 3) (by omega)).2
  refine wp_seq (wp_asgF (p := .int (1 + rv l 3 % 4)) (e_add rfl (e_mod (e_row (i := 3) hr rfl rfl rfl (by omega)) rfl (by decide))) ?_)
  refine wp_env (ρ' := [.val (.scr (ns.map .int)), .val (.lst l), .val (.int n), .val (.int (1 + rv l 3 % 4)), .un, .un, .un, .un, .un, .un]) rfl ?_
  refine wp_seq (Wp.mono (Q := fun ρ1 fl => ∃ m : Nat, 1 ≤ m ∧ m ≤ 5 ∧ fl = .nx ∧ ρ1 = [.val (.scr (ns.map .int)), .val (.lst l), .val (.int n), .val (.int m), .un, .un, .un, .un, .un, .un]) ?_ ?_)
  · refine wp_ifD (q_eq (e_mod (e_row (i := 4) hr rfl rfl rfl (by omega)) rfl (by decide)) rfl) (fun _ => wp_asgV (p := .int 5) rfl ⟨5, by decide, by decide, rfl, rfl⟩) (fun _ => wp_skip ?_)
    obtain ⟨m, em⟩ : ∃ m : Nat, (1 : Int) + rv l 3 % 4 = m := ⟨(1 + rv l 3 % 4).toNat, by omega⟩
    exact ⟨m, by omega, by omega, rfl, by rw [em]⟩
  rintro ρ1 fl ⟨m, m1, m5, rfl, rfl⟩
  refine wp_seq (wp_asgF (p := .lst ([twr l m 5, twr l m 10, twr l m 15].map tupI)) ?_ ?_)
  · refine Eq.trans (e_cM (xs := [5, 10, 15]) .int (fun at' => tupI (twr l m at')) rfl (fun at' ha => ?_) (by show 3 ≤ 1000; decide)) rfl
    have h15 : 0 ≤ at' ∧ at' ≤ 15 := by
      simp only [List.mem_cons, List.not_mem_nil, or_false] at ha
      omega
    refine ⟨_, rfl, e_app1 (p := .lst ((twr l m at').map .int)) ?_ rfl⟩
    refine Eq.trans (e_cM (xs := List.range m) (fun i : Nat => .int i) (fun k : Nat => .int (rv l (at'.toNat + k) % 3)) (it_rgN rfl (by omega)) (fun k hk => ?_) (by rw [List.length_range]; omega)) (by unfold twr; rw [List.map_map]; rfl)
    have hk := List.mem_range.mp hk
    exact ⟨_, rfl, e_mod (e_row (i := at'.toNat + k) hr rfl (e_add rfl rfl) (by omega) (by omega)) rfl (by decide)⟩
  refine wp_env (ρ' := [.val (.scr (ns.map .int)), .val (.lst l), .val (.int n), .val (.int m), .own (.lst ([twr l m 5, twr l m 10, twr l m 15].map tupI)), .un, .un, .un, .un, .un]) rfl ?_
  have x20 := (row_get hr (i := 20) (by omega)).2
  obtain ⟨j, ej⟩ : ∃ j : Nat, rv l 20 % 6 = j := ⟨(rv l 20 % 6).toNat, by omega⟩
  have hj : j < six.length := by show j < 6; omega
  have hin : six[j] ∈ six := List.getElem_mem hj
  refine wp_seq (wp_asgV (p := tupI six[j]) (e_ix (p := .tup (six.map tupI)) rfl (e_eqI (e_mod (e_row (i := 20) hr rfl rfl rfl (by omega)) rfl (by decide)) ej) ?_) ?_)
  · show atI _ _ = _
    refine atI_nat ?_
    rw [List.getElem?_map, List.getElem?_eq_getElem hj]
    rfl
  generalize six[j] = nm at hin
  obtain ⟨l3, N, M, inv⟩ := six_ok hin
  refine wp_env (ρ' := [.val (.scr (ns.map .int)), .val (.lst l), .val (.int n), .val (.int m), .own (.lst ([twr l m 5, twr l m 10, twr l m 15].map tupI)), .un, .un, .val (tupI nm), .un, .un]) rfl ?_
  have e4 : ∀ {f1 f2 f3 f4 : Cl} {ρ : En} {p1 p2 p3 p4 r : PV}, f1 ρ = some p1 → f2 ρ = some p2 → f3 ρ = some p3 → f4 ρ = some p4 → gT [p1, p2, p3, p4] = some r → cApp gT [f1, f2, f3, f4] ρ = some r := fun {f1 f2 f3 f4 ρ p1 p2 p3 p4 r} a1 a2 a3 a4 a5 => by
    simp only [cApp, evs, a1, a2, a3, a4, Option.bind_some, Option.map_some]
    exact a5
  refine wp_seq (wp_no (q_notF (q_truB (e4 (tw_ix (xs := [twr l m 5, twr l m 10, twr l m 15]) (i := 0) rfl rfl rfl rfl) (tw_ix (xs := [twr l m 5, twr l m 10, twr l m 15]) (i := 1) rfl rfl rfl rfl) (tw_ix (xs := [twr l m 5, twr l m 10, twr l m 15]) (i := 2) rfl rfl rfl rfl) rfl (hT m _ _ _ nm m5 twr_ok twr_ok twr_ok hin)))) ?_)
  have h0 : ∀ {ρ : En}, cVarB 7 ρ = some (tupI nm) → cTup [cIx (cVarB 7) (cK (.int 0))] ρ = some (tupI [nu nm 0]) := fun {ρ} h => e_tup1 (nu_ix l3 (by decide) (by decide) h rfl)
  have h1 : ∀ {ρ : En}, cVarB 7 ρ = some (tupI nm) → cTup [cIx (cVarB 7) (cK (.int 1))] ρ = some (tupI [nu nm 1]) := fun {ρ} h => e_tup1 (nu_ix l3 (by decide) (by decide) h rfl)
  refine wp_seq (wp_row (ps := [tupI (List.replicate m (nu nm 0)), tupI (List.replicate m (nu nm 1))]) (evs2 (e_repI (h0 rfl) rfl m1 (by omega)) (e_repI (h1 rfl) rfl m1 (by omega))) (sz_le (n := 2) (by decide)) rfl ?_)
  refine wp_env (ρ' := [.val (.scr (ns.map .int)), .val (.lst l), .val (.int n), .val (.int m), .own (.lst ([twr l m 5, twr l m 10, twr l m 15].map tupI)), .un, .un, .val (tupI nm), .val (tupI (List.replicate m (nu nm 0))), .val (tupI (List.replicate m (nu nm 1)))]) rfl ?_
  have r0 : okT m (List.replicate m 0) := rep_ok (by decide) (by decide)
  have r1 : okT m (List.replicate m 1) := rep_ok (by decide) (by decide)
  have mr : ∀ x, (List.replicate m x).map (nu nm) = List.replicate m (nu nm x) := fun x => List.map_replicate
  have d1 : dst (List.replicate m (nu nm 1)) (List.replicate m (nu nm 0)) = 2 ^ m - 1 := by
    rw [← mr, ← mr, N.dst M inv m5 r1 r0, dst_symm m5 r1 r0, dst_peg m5]
  have pw : ∀ k : Nat, (1 : Int) * 2 ^ k - 1 = ((2 ^ k - 1 : Nat) : Int) := fun k => by
    have := Nat.two_pow_pos k
    rw [Int.one_mul, show (2 : Int) ^ k = ((2 ^ k : Nat) : Int) by push_cast; rfl]
    omega
  have hmv : gM [tupI (List.replicate m (nu nm 0)), tupI (List.replicate m (nu nm 1))] = some (.int (2 ^ m - 1 : Nat)) := by
    rw [← d1]
    refine hM m _ _ m5 ?_ ?_
    · rw [← mr]; exact N.okT r0
    · rw [← mr]; exact N.okT r1
  refine wp_seq (wp_no (q_like (p := .int (2 ^ m - 1 : Nat)) (e_app2 rfl rfl hmv) (e_eqI (e_sub (e_shl (n := m) rfl rfl (by decide) (by omega)) rfl) (pw m)) (hL _ rfl)) ?_)
  refine wp_ret (e_orB (x := decide ((4 : Int) < m)) (y := true) (e_cmp rfl rfl rfl) fun h4 => ?_) (.inl (by rw [Bool.or_true]))
  have h4 := of_decide_eq_false h4
  have o0 : okT (m + 1) (List.replicate m 0 ++ [0]) := ext_ok r0 (by decide) (by decide)
  have o1 : okT (m + 1) (List.replicate m 0 ++ [1]) := ext_ok r0 (by decide) (by decide)
  have ma : ∀ x, (List.replicate m 0 ++ [x]).map (nu nm) = List.replicate m (nu nm 0) ++ [nu nm x] := fun x => by rw [List.map_append, mr]; rfl
  have d2 : dst (List.replicate m (nu nm 0) ++ [nu nm 1]) (List.replicate m (nu nm 0) ++ [nu nm 0]) = 2 ^ (m + 1) - 1 := by
    rw [← ma, ← ma, N.dst M inv (by omega) o1 o0, dst_symm (by omega) o1 o0, dst_great (by omega)]
  have hmv2 : gM [tupI (List.replicate m (nu nm 0) ++ [nu nm 0]), tupI (List.replicate m (nu nm 0) ++ [nu nm 1])] = some (.int (2 ^ (m + 1) - 1 : Nat)) := by
    rw [← d2]
    refine hM (m + 1) _ _ (by omega) ?_ ?_
    · rw [← ma]; exact N.okT o0
    · rw [← ma]; exact N.okT o1
  exact e_app2 (e_app2 (e_catI (l := List.replicate m (nu nm 0)) (m := [nu nm 0]) rfl (h0 rfl) (by simp; omega)) (e_catI (l := List.replicate m (nu nm 0)) (m := [nu nm 1]) rfl (h1 rfl) (by simp; omega)) hmv2) (e_eqI (e_sub (e_shl (n := m + 1) rfl (e_eqI (e_add rfl rfl) (by push_cast; rfl)) (by decide) (by omega)) rfl) (pw (m + 1))) (hL _ rfl)
end Pi

namespace Pi
open PySem PySem.Spec PyProof.Rows L2
section
variable {P : Program} {w : World} {K : PySem.W.Frag} {mg : Str → Option Value} {base : Heap}
theorem fin_law {f : Addr} {fd : FuncData} (D_gray_word : Df K mg "gray_word" s_gray_word ["n", "k"]) (D_gray_place : Df K mg "gray_place" s_gray_place ["word"]) (D_next_towers : Df K mg "next_towers" s_next_towers ["tower"]) (D_tower_steps : Df K mg "tower_steps" s_tower_steps ["goal"]) (D_tower_moves : Df K mg "tower_moves" s_tower_moves ["first", "second"]) (D_first_move : Df K mg "first_move" s_first_move ["first", "second"]) (D_law_mixed : Df K mg "_law_mixed" s_law_mixed ["script", "k"]) (D_law_row : Df K mg "_law_row" s_law_row ["script", "many"]) (D_law_is_int : Df K mg "_law_is_int" s_law_is_int ["value"]) (D_law_like : Df K mg "_law_like" s_law_like ["value", "due"]) (D_law_xor : Df K mg "_law_xor" s_law_xor ["one", "other"]) (D_law_words_right : Df K mg "_law_words_right" s_law_words_right ["n", "one", "other"]) (D_law_near : Df K mg "_law_near" s_law_near ["tower"]) (D_law_moves : Df K mg "_law_moves" s_law_moves ["one", "other"]) (D_law_towers_right : Df K mg "_law_towers_right" s_law_towers_right ["one", "other", "third", "names"]) (z_tuple : mg "tuple" = none) (z_range : mg "range" = none) (z_reversed : mg "reversed" = none) (z_enumerate : mg "enumerate" = none) (z_sorted : mg "sorted" = none) (z_len : mg "len" = none) (z_int : mg "int" = none) (z_isinstance : mg "isinstance" = none) (z_bool : mg "bool" = none) (z_all : mg "all" = none) (z_str : mg "str" = none) (F_law : Fun K "law" "law" s_law f fd) : FnOk P w K mg base CX0 6 f fd ["script"] (spLaw K) := by
  have B_gray_word' : ∀ y ∈ B_gray_word, mg y = none := hb_cons z_tuple (hb_cons z_range (hb_nil))
  have B_gray_place' : ∀ y ∈ B_gray_place, mg y = none := hb_cons z_reversed (hb_nil)
  have B_next_towers' : ∀ y ∈ B_next_towers, mg y = none := hb_cons z_enumerate (hb_cons z_range (hb_cons z_sorted (hb_nil)))
  have B_tower_steps' : ∀ y ∈ B_tower_steps, mg y = none := hb_cons z_len (hb_nil)
  have B_tower_moves' : ∀ y ∈ B_tower_moves, mg y = none := hb_nil
  have B_first_move' : ∀ y ∈ B_first_move, mg y = none := hb_nil
  have B_law_mixed' : ∀ y ∈ B_law_mixed, mg y = none := hb_cons z_len (hb_cons z_int (hb_nil))
  have B_law_row' : ∀ y ∈ B_law_row, mg y = none := hb_cons z_len (hb_cons z_range (hb_cons z_int (hb_nil)))
  have B_law_is_int' : ∀ y ∈ B_law_is_int, mg y = none := hb_cons z_isinstance (hb_cons z_int (hb_cons z_bool (hb_nil)))
  have B_law_like' : ∀ y ∈ B_law_like, mg y = none := hb_cons z_isinstance (hb_cons z_bool (hb_cons z_tuple (hb_cons z_len (hb_cons z_all (hb_cons z_range (hb_cons z_str (hb_nil)))))))
  have B_law_xor' : ∀ y ∈ B_law_xor, mg y = none := hb_cons z_range (hb_cons z_int (hb_nil))
  have B_law_words_right' : ∀ y ∈ B_law_words_right, mg y = none := hb_cons z_tuple (hb_cons z_range (hb_cons z_int (hb_cons z_isinstance (hb_cons z_len (hb_nil)))))
  have B_law_near' : ∀ y ∈ B_law_near, mg y = none := hb_cons z_range (hb_cons z_len (hb_cons z_sorted (hb_nil)))
  have B_law_moves' : ∀ y ∈ B_law_moves, mg y = none := hb_cons z_range (hb_cons z_len (hb_nil))
  have B_law_towers_right' : ∀ y ∈ B_law_towers_right, mg y = none := hb_cons z_len (hb_cons z_tuple (hb_nil))
  have B_law' : ∀ y ∈ B_law, mg y = none := hb_cons z_int (hb_cons z_tuple (hb_cons z_range (hb_nil)))
  have F_mixed : FnP P w K mg base "_law_mixed" 1 (fRun 2 6 bMixed) := mixed_fnp D_law_mixed sc_law_mixed hb_law_mixed B_law_mixed'
  have F_row : FnP P w K mg base "_law_row" 2 gRow := row_fnp D_law_row sc_law_row hb_law_row B_law_row' F_mixed
  have F_isint : FnP P w K mg base "_law_is_int" 1 gIsI := isI_fnp D_law_is_int sc_law_is_int hb_law_is_int B_law_is_int'
  have F_like : FnP P w K mg base "_law_like" 4 (gLike 3) := like_fnp D_law_like sc_law_like hb_law_like B_law_like' F_isint rfl rfl 3
  have F_word : FnP P w K mg base "gray_word" 1 (fRun 2 4 b_gray_word) := fn_run D_gray_word sc_gray_word hb_gray_word B_gray_word' hf_nil
  have F_place : FnP P w K mg base "gray_place" 1 (fRun 1 4 b_gray_place) := fn_run D_gray_place sc_gray_place hb_gray_place B_gray_place' hf_nil
  have F_xor : FnP P w K mg base "_law_xor" 1 (fRun 2 5 b_law_xor) := fn_run D_law_xor sc_law_xor hb_law_xor B_law_xor' hf_nil
  have F_words : FnP P w K mg base "_law_words_right" 5 (fRun 3 10 (b_law_words_right _ _ _ _)) := fn_run D_law_words_right sc_law_words_right (hb_law_words_right _ _ _ _) B_law_words_right' (hf_cons F_word (hf_cons F_like (hf_cons F_xor (hf_cons F_place hf_nil))))
  have F_next : FnP P w K mg base "next_towers" 1 (fRun 1 5 b_next_towers) := fn_run D_next_towers sc_next_towers hb_next_towers B_next_towers' hf_nil
  have F_steps : FnP P w K mg base "tower_steps" 2 (fRun 1 5 (b_tower_steps _)) := fn_run D_tower_steps sc_tower_steps (hb_tower_steps _) B_tower_steps' (hf_cons F_next hf_nil)
  have F_moves : FnP P w K mg base "tower_moves" 3 (fRun 2 2 (b_tower_moves _)) := fn_run D_tower_moves sc_tower_moves (hb_tower_moves _) B_tower_moves' (hf_cons F_steps hf_nil)
  have F_first : FnP P w K mg base "first_move" 3 (fRun 2 4 (b_first_move _ _)) := fn_run D_first_move sc_first_move (hb_first_move _ _) B_first_move' (hf_cons F_steps (hf_cons F_next hf_nil))
  have F_near : FnP P w K mg base "_law_near" 1 (fRun 1 4 b_law_near) := fn_run D_law_near sc_law_near hb_law_near B_law_near' hf_nil
  have F_lmoves : FnP P w K mg base "_law_moves" 2 (fRun 2 9 (b_law_moves _)) := fn_run D_law_moves sc_law_moves (hb_law_moves _) B_law_moves' (hf_cons F_near hf_nil)
  have F_towers : FnP P w K mg base "_law_towers_right" 5 (fRun 4 10 (b_law_towers_right _ _ _ _ _ _)) := fn_run D_law_towers_right sc_law_towers_right (hb_law_towers_right _ _ _ _ _ _) B_law_towers_right' (hf_cons F_moves (hf_cons F_isint (hf_cons F_like (hf_cons F_lmoves (hf_cons F_first (hf_cons F_near hf_nil))))))
  refine law_ok (g := fRun 1 10 (b_law gRow _ _ _ _)) (fn_ok2 F_law sc_law (hb_law _ _ _ _ _) B_law' (hf_cons F_row (hf_cons F_words (hf_cons F_towers (hf_cons F_like (hf_cons F_moves hf_nil))))) fun ps r e => fRun_hg e) rfl fun ns _ => ?_
  have r2 : ∀ p, plainD 2 p = true → gLike 3 [p, p] = some (.bl true) := fun p h => like_same 2 p h
  have rN : ∀ t : Tw, t.length ≤ 5 → fRun 1 5 b_next_towers [tupI t] = some (.lst ((sortR (nbL t)).map tupI)) := fun t h => (fRun_eq rfl).trans (next_run h)
  have rLn : ∀ t : Tw, t.length ≤ 5 → fRun 1 4 b_law_near [tupI t] = some (.lst ((sortR (nbL t)).map tupI)) := fun t h => (fRun_eq rfl).trans (near_run h)
  have rS : StepsOk (fRun 1 5 (b_tower_steps (fRun 1 5 b_next_towers))) := fun m g hm hg => by
    obtain ⟨r, e, R, rfl, h⟩ := steps_run rN hm hg
    exact ⟨R, (fRun_eq rfl).trans e, h⟩
  have rM : MovesOk (fRun 2 2 (b_tower_moves (fRun 1 5 (b_tower_steps (fRun 1 5 b_next_towers))))) := fun m a b hm ha hb => (fRun_eq rfl).trans (moves_run rS hm ha hb)
  have rI : ∀ x : Int, gIsI [.int x] = some (.bl true) := fun x => rfl
  have rG : ∀ n x : Nat, n ≤ 10 → x < 1024 → fRun 2 4 b_gray_word [.int n, .int x] = some (tupI (gw n x)) := fun n x h1 h2 => (fRun_eq rfl).trans (gray_run h1 h2)
  have rX : ∀ a b : Nat, fRun 2 5 b_law_xor [.int a, .int b] = some (.int (xr a b : Nat)) := fun a b => (fRun_eq rfl).trans xor_run
  have rP : ∀ n x : Nat, x < 2 ^ n → fRun 1 4 b_gray_place [tupI (gw n x)] = some (.int x) := fun n x h => (fRun_eq rfl).trans (place_run h)
  have rLm : ∀ (m : Nat) (a b : Tw), m ≤ 3 → okT m a → okT m b → fRun 2 9 (b_law_moves (fRun 1 4 b_law_near)) [tupI a, tupI b] = some (.int (dst a b : Nat)) := fun m a b hm ha hb => (fRun_eq rfl).trans (lmoves_run rLn hm ha hb)
  have rF : ∀ (m : Nat) (a b : Tw), m ≤ 5 → okT m a → okT m b → fRun 2 4 (b_first_move (fRun 1 5 (b_tower_steps (fRun 1 5 b_next_towers))) (fRun 1 5 b_next_towers)) [tupI a, tupI b] = some (firstV a b) := fun m a b hm ha hb => (fRun_eq rfl).trans (first_run rS rN hm ha hb)
  refine (fRun_eq (ps := [.scr (ns.map PV.int)]) rfl).trans ?_
  refine law_run (gRow_ok ns (many := 24) (by decide)) (fun n x y h1 h9 hx hy => ?_) (fun m a b c l hm ha hb hc hl => ?_) rM r2
  · refine (fRun_eq rfl).trans ?_
    exact words_run rG r2 rX rP h1 h9 hx hy
  · refine (fRun_eq rfl).trans ?_
    exact towers_run rM rI r2 rLm rF rLn hm ha hb hc hl
end
theorem all_mk {l : PySem.W.OpenLaw} {w : World} {K : PySem.W.Frag} {h : Heap} {mg : Str → Option Value} {fa : Addr} (X : K.In h) (G : h.Ns mainGlobals mg) (hfa : mg "law" = some (.ref fa)) {od0 an0 : Option Addr} {f0 : Addr} {oc0 kV0 dc0 pm0 cd0 ct0 : Value} {sl0 : Array (Option Value)} {od1 an1 : Option Addr} {f1 : Addr} {oc1 kV1 dc1 pm1 cd1 ct1 : Value} {sl1 : Array (Option Value)} {od2 an2 : Option Addr} {f2 : Addr} {oc2 kV2 dc2 pm2 cd2 ct2 : Value} {sl2 : Array (Option Value)} {od3 an3 : Option Addr} {f3 : Addr} {oc3 kV3 dc3 pm3 cd3 ct3 : Value} {sl3 : Array (Option Value)} {od4 an4 : Option Addr} {f4 : Addr} {oc4 kV4 dc4 pm4 cd4 ct4 : Value} {sl4 : Array (Option Value)} {od5 an5 : Option Addr} {f5 : Addr} {oc5 kV5 dc5 pm5 cd5 ct5 : Value} {sl5 : Array (Option Value)} {od6 an6 : Option Addr} {f6 : Addr} {oc6 kV6 dc6 pm6 cd6 ct6 : Value} {sl6 : Array (Option Value)} {od7 an7 : Option Addr} {f7 : Addr} {oc7 kV7 dc7 pm7 cd7 ct7 : Value} {sl7 : Array (Option Value)} {od8 an8 : Option Addr} {f8 : Addr} {oc8 kV8 dc8 pm8 cd8 ct8 : Value} {sl8 : Array (Option Value)} {od9 an9 : Option Addr} {f9 : Addr} {oc9 kV9 dc9 pm9 cd9 ct9 : Value} {sl9 : Array (Option Value)} {od10 an10 : Option Addr} {f10 : Addr} {oc10 kV10 dc10 pm10 cd10 ct10 : Value} {sl10 : Array (Option Value)} {od11 an11 : Option Addr} {f11 : Addr} {oc11 kV11 dc11 pm11 cd11 ct11 : Value} {sl11 : Array (Option Value)} {od12 an12 : Option Addr} {f12 : Addr} {oc12 kV12 dc12 pm12 cd12 ct12 : Value} {sl12 : Array (Option Value)} {od13 an13 : Option Addr} {f13 : Addr} {oc13 kV13 dc13 pm13 cd13 ct13 : Value} {sl13 : Array (Option Value)} {od14 an14 : Option Addr} {f14 : Addr} {oc14 kV14 dc14 pm14 cd14 ct14 : Value} {sl14 : Array (Option Value)} {od15 an15 : Option Addr} {f15 : Addr} {oc15 kV15 dc15 pm15 cd15 ct15 : Value} {sl15 : Array (Option Value)}
    (a0 : PySem.W.nsIn K mainGlobals "gray_word" = some (some (.ref f0))) (l0 : K.lookup f0 = some ⟨oc0, od0, .func (PySem.W.fnOf "gray_word" "gray_word" (defArgs s_gray_word) (defBody s_gray_word) (defScope s_gray_word) .none kV0 dc0 pm0 an0 cd0 ct0), sl0⟩) (c0 : PySem.W.codeIn K cd0 "gray_word" = true) (k0 : PySem.W.keepIn K (.ref f0) = true)
    (a1 : PySem.W.nsIn K mainGlobals "gray_place" = some (some (.ref f1))) (l1 : K.lookup f1 = some ⟨oc1, od1, .func (PySem.W.fnOf "gray_place" "gray_place" (defArgs s_gray_place) (defBody s_gray_place) (defScope s_gray_place) .none kV1 dc1 pm1 an1 cd1 ct1), sl1⟩) (c1 : PySem.W.codeIn K cd1 "gray_place" = true) (k1 : PySem.W.keepIn K (.ref f1) = true)
    (a2 : PySem.W.nsIn K mainGlobals "next_towers" = some (some (.ref f2))) (l2 : K.lookup f2 = some ⟨oc2, od2, .func (PySem.W.fnOf "next_towers" "next_towers" (defArgs s_next_towers) (defBody s_next_towers) (defScope s_next_towers) .none kV2 dc2 pm2 an2 cd2 ct2), sl2⟩) (c2 : PySem.W.codeIn K cd2 "next_towers" = true) (k2 : PySem.W.keepIn K (.ref f2) = true)
    (a3 : PySem.W.nsIn K mainGlobals "tower_steps" = some (some (.ref f3))) (l3 : K.lookup f3 = some ⟨oc3, od3, .func (PySem.W.fnOf "tower_steps" "tower_steps" (defArgs s_tower_steps) (defBody s_tower_steps) (defScope s_tower_steps) .none kV3 dc3 pm3 an3 cd3 ct3), sl3⟩) (c3 : PySem.W.codeIn K cd3 "tower_steps" = true) (k3 : PySem.W.keepIn K (.ref f3) = true)
    (a4 : PySem.W.nsIn K mainGlobals "tower_moves" = some (some (.ref f4))) (l4 : K.lookup f4 = some ⟨oc4, od4, .func (PySem.W.fnOf "tower_moves" "tower_moves" (defArgs s_tower_moves) (defBody s_tower_moves) (defScope s_tower_moves) .none kV4 dc4 pm4 an4 cd4 ct4), sl4⟩) (c4 : PySem.W.codeIn K cd4 "tower_moves" = true) (k4 : PySem.W.keepIn K (.ref f4) = true)
    (a5 : PySem.W.nsIn K mainGlobals "first_move" = some (some (.ref f5))) (l5 : K.lookup f5 = some ⟨oc5, od5, .func (PySem.W.fnOf "first_move" "first_move" (defArgs s_first_move) (defBody s_first_move) (defScope s_first_move) .none kV5 dc5 pm5 an5 cd5 ct5), sl5⟩) (c5 : PySem.W.codeIn K cd5 "first_move" = true) (k5 : PySem.W.keepIn K (.ref f5) = true)
    (a6 : PySem.W.nsIn K mainGlobals "_law_mixed" = some (some (.ref f6))) (l6 : K.lookup f6 = some ⟨oc6, od6, .func (PySem.W.fnOf "_law_mixed" "_law_mixed" (defArgs s_law_mixed) (defBody s_law_mixed) (defScope s_law_mixed) .none kV6 dc6 pm6 an6 cd6 ct6), sl6⟩) (c6 : PySem.W.codeIn K cd6 "_law_mixed" = true) (k6 : PySem.W.keepIn K (.ref f6) = true)
    (a7 : PySem.W.nsIn K mainGlobals "_law_row" = some (some (.ref f7))) (l7 : K.lookup f7 = some ⟨oc7, od7, .func (PySem.W.fnOf "_law_row" "_law_row" (defArgs s_law_row) (defBody s_law_row) (defScope s_law_row) .none kV7 dc7 pm7 an7 cd7 ct7), sl7⟩) (c7 : PySem.W.codeIn K cd7 "_law_row" = true) (k7 : PySem.W.keepIn K (.ref f7) = true)
    (a8 : PySem.W.nsIn K mainGlobals "_law_is_int" = some (some (.ref f8))) (l8 : K.lookup f8 = some ⟨oc8, od8, .func (PySem.W.fnOf "_law_is_int" "_law_is_int" (defArgs s_law_is_int) (defBody s_law_is_int) (defScope s_law_is_int) .none kV8 dc8 pm8 an8 cd8 ct8), sl8⟩) (c8 : PySem.W.codeIn K cd8 "_law_is_int" = true) (k8 : PySem.W.keepIn K (.ref f8) = true)
    (a9 : PySem.W.nsIn K mainGlobals "_law_like" = some (some (.ref f9))) (l9 : K.lookup f9 = some ⟨oc9, od9, .func (PySem.W.fnOf "_law_like" "_law_like" (defArgs s_law_like) (defBody s_law_like) (defScope s_law_like) .none kV9 dc9 pm9 an9 cd9 ct9), sl9⟩) (c9 : PySem.W.codeIn K cd9 "_law_like" = true) (k9 : PySem.W.keepIn K (.ref f9) = true)
    (a10 : PySem.W.nsIn K mainGlobals "_law_xor" = some (some (.ref f10))) (l10 : K.lookup f10 = some ⟨oc10, od10, .func (PySem.W.fnOf "_law_xor" "_law_xor" (defArgs s_law_xor) (defBody s_law_xor) (defScope s_law_xor) .none kV10 dc10 pm10 an10 cd10 ct10), sl10⟩) (c10 : PySem.W.codeIn K cd10 "_law_xor" = true) (k10 : PySem.W.keepIn K (.ref f10) = true)
    (a11 : PySem.W.nsIn K mainGlobals "_law_words_right" = some (some (.ref f11))) (l11 : K.lookup f11 = some ⟨oc11, od11, .func (PySem.W.fnOf "_law_words_right" "_law_words_right" (defArgs s_law_words_right) (defBody s_law_words_right) (defScope s_law_words_right) .none kV11 dc11 pm11 an11 cd11 ct11), sl11⟩) (c11 : PySem.W.codeIn K cd11 "_law_words_right" = true) (k11 : PySem.W.keepIn K (.ref f11) = true)
    (a12 : PySem.W.nsIn K mainGlobals "_law_near" = some (some (.ref f12))) (l12 : K.lookup f12 = some ⟨oc12, od12, .func (PySem.W.fnOf "_law_near" "_law_near" (defArgs s_law_near) (defBody s_law_near) (defScope s_law_near) .none kV12 dc12 pm12 an12 cd12 ct12), sl12⟩) (c12 : PySem.W.codeIn K cd12 "_law_near" = true) (k12 : PySem.W.keepIn K (.ref f12) = true)
    (a13 : PySem.W.nsIn K mainGlobals "_law_moves" = some (some (.ref f13))) (l13 : K.lookup f13 = some ⟨oc13, od13, .func (PySem.W.fnOf "_law_moves" "_law_moves" (defArgs s_law_moves) (defBody s_law_moves) (defScope s_law_moves) .none kV13 dc13 pm13 an13 cd13 ct13), sl13⟩) (c13 : PySem.W.codeIn K cd13 "_law_moves" = true) (k13 : PySem.W.keepIn K (.ref f13) = true)
    (a14 : PySem.W.nsIn K mainGlobals "_law_towers_right" = some (some (.ref f14))) (l14 : K.lookup f14 = some ⟨oc14, od14, .func (PySem.W.fnOf "_law_towers_right" "_law_towers_right" (defArgs s_law_towers_right) (defBody s_law_towers_right) (defScope s_law_towers_right) .none kV14 dc14 pm14 an14 cd14 ct14), sl14⟩) (c14 : PySem.W.codeIn K cd14 "_law_towers_right" = true) (k14 : PySem.W.keepIn K (.ref f14) = true)
    (a15 : PySem.W.nsIn K mainGlobals "law" = some (some (.ref f15))) (l15 : K.lookup f15 = some ⟨oc15, od15, .func (PySem.W.fnOf "law" "law" (defArgs s_law) (defBody s_law) (defScope s_law) .none kV15 dc15 pm15 an15 cd15 ct15), sl15⟩) (c15 : PySem.W.codeIn K cd15 "law" = true) (k15 : PySem.W.keepIn K (.ref f15) = true)
    (z0 : PySem.W.nsIn K mainGlobals "tuple" = some none)
    (z1 : PySem.W.nsIn K mainGlobals "range" = some none)
    (z2 : PySem.W.nsIn K mainGlobals "reversed" = some none)
    (z3 : PySem.W.nsIn K mainGlobals "enumerate" = some none)
    (z4 : PySem.W.nsIn K mainGlobals "sorted" = some none)
    (z5 : PySem.W.nsIn K mainGlobals "len" = some none)
    (z6 : PySem.W.nsIn K mainGlobals "int" = some none)
    (z7 : PySem.W.nsIn K mainGlobals "isinstance" = some none)
    (z8 : PySem.W.nsIn K mainGlobals "bool" = some none)
    (z9 : PySem.W.nsIn K mainGlobals "all" = some none)
    (z10 : PySem.W.nsIn K mainGlobals "str" = some none) :
    ∃ fd : FuncData, (∀ (s : Shared) (v : Value), BindsTo s fd ⟨[v], []⟩ [("script", v)]) ∧ ∀ base : Heap, K.In base → base.Ns mainGlobals mg → FnOk l.prog w K mg base CX0 6 fa fd ["script"] (spLaw K) := by
  have e := hfa.symm.trans (PySem.W.mg_of X G a15)
  cases e
  exact ⟨PySem.W.fnOf "law" "law" (defArgs s_law) (defBody s_law) (defScope s_law) .none kV15 dc15 pm15 an15 cd15 ct15, fun s v => .of_eq rfl, fun base _ _ => fin_law
    (df_mk X G a0 l0 c0 k0 fun _ _ _ _ _ _ us hl => match us, hl with | [_, _], _ => rfl)
    (df_mk X G a1 l1 c1 k1 fun _ _ _ _ _ _ us hl => match us, hl with | [_], _ => rfl)
    (df_mk X G a2 l2 c2 k2 fun _ _ _ _ _ _ us hl => match us, hl with | [_], _ => rfl)
    (df_mk X G a3 l3 c3 k3 fun _ _ _ _ _ _ us hl => match us, hl with | [_], _ => rfl)
    (df_mk X G a4 l4 c4 k4 fun _ _ _ _ _ _ us hl => match us, hl with | [_, _], _ => rfl)
    (df_mk X G a5 l5 c5 k5 fun _ _ _ _ _ _ us hl => match us, hl with | [_, _], _ => rfl)
    (df_mk X G a6 l6 c6 k6 fun _ _ _ _ _ _ us hl => match us, hl with | [_, _], _ => rfl)
    (df_mk X G a7 l7 c7 k7 fun _ _ _ _ _ _ us hl => match us, hl with | [_, _], _ => rfl)
    (df_mk X G a8 l8 c8 k8 fun _ _ _ _ _ _ us hl => match us, hl with | [_], _ => rfl)
    (df_mk X G a9 l9 c9 k9 fun _ _ _ _ _ _ us hl => match us, hl with | [_, _], _ => rfl)
    (df_mk X G a10 l10 c10 k10 fun _ _ _ _ _ _ us hl => match us, hl with | [_, _], _ => rfl)
    (df_mk X G a11 l11 c11 k11 fun _ _ _ _ _ _ us hl => match us, hl with | [_, _, _], _ => rfl)
    (df_mk X G a12 l12 c12 k12 fun _ _ _ _ _ _ us hl => match us, hl with | [_], _ => rfl)
    (df_mk X G a13 l13 c13 k13 fun _ _ _ _ _ _ us hl => match us, hl with | [_, _], _ => rfl)
    (df_mk X G a14 l14 c14 k14 fun _ _ _ _ _ _ us hl => match us, hl with | [_, _, _, _], _ => rfl)
    (PySem.W.mg_none_of X G z0)
    (PySem.W.mg_none_of X G z1)
    (PySem.W.mg_none_of X G z2)
    (PySem.W.mg_none_of X G z3)
    (PySem.W.mg_none_of X G z4)
    (PySem.W.mg_none_of X G z5)
    (PySem.W.mg_none_of X G z6)
    (PySem.W.mg_none_of X G z7)
    (PySem.W.mg_none_of X G z8)
    (PySem.W.mg_none_of X G z9)
    (PySem.W.mg_none_of X G z10)
    (fun_mk l15 c15 k15)⟩
end Pi
open PySem PySem.W PyProof.Rows
set_option maxHeartbeats 0 in
theorem PySem.Challenge.cw_choicesjoined_k47_whole_digits_and_tower_holds : PySem.Challenge.rw_choicesjoined_k47_whole_digits_and_tower.Holds := by
  w_on; o_law; k_head; (case hw => w_witness2)
  k_fill
  refine L2.walk_of (l := PySem.Challenge.rw_choicesjoined_k47_whole_digits_and_tower) (n := 63) (k := 6) (x := "script") (CX := fun _ => L2.CX0) (sp := fun w => Pi.spLaw _) rfl (by decide) rfl ⟨rfl, by decide, by decide⟩ (fun w h Y => PySem.W.kIn_of Y) ?F (fun _ _ a ns hl _ hS => ⟨a, ns, rfl, hS, hl, fun _ => rfl⟩) (fun _ _ _ _ _ h => h)
  case F =>
    intro w mg fa h KX G hmg
    refine' Pi.all_mk KX G hmg ?a0 ?l0 ?c0 ?k0 ?a1 ?l1 ?c1 ?k1 ?a2 ?l2 ?c2 ?k2 ?a3 ?l3 ?c3 ?k3 ?a4 ?l4 ?c4 ?k4 ?a5 ?l5 ?c5 ?k5 ?a6 ?l6 ?c6 ?k6 ?a7 ?l7 ?c7 ?k7 ?a8 ?l8 ?c8 ?k8 ?a9 ?l9 ?c9 ?k9 ?a10 ?l10 ?c10 ?k10 ?a11 ?l11 ?c11 ?k11 ?a12 ?l12 ?c12 ?k12 ?a13 ?l13 ?c13 ?k13 ?a14 ?l14 ?c14 ?k14 ?a15 ?l15 ?c15 ?k15 ?z0 ?z1 ?z2 ?z3 ?z4 ?z5 ?z6 ?z7 ?z8 ?z9 ?z10
    (case a0 => k_is); (case l0 => k_is); (case c0 => k_is); (case k0 => k_is); (case a1 => k_is); (case l1 => k_is); (case c1 => k_is); (case k1 => k_is); (case a2 => k_is); (case l2 => k_is); (case c2 => k_is); (case k2 => k_is); (case a3 => k_is); (case l3 => k_is); (case c3 => k_is); (case k3 => k_is); (case a4 => k_is); (case l4 => k_is); (case c4 => k_is); (case k4 => k_is); (case a5 => k_is); (case l5 => k_is); (case c5 => k_is); (case k5 => k_is); (case a6 => k_is); (case l6 => k_is); (case c6 => k_is); (case k6 => k_is); (case a7 => k_is); (case l7 => k_is); (case c7 => k_is); (case k7 => k_is); (case a8 => k_is); (case l8 => k_is); (case c8 => k_is); (case k8 => k_is); (case a9 => k_is); (case l9 => k_is); (case c9 => k_is); (case k9 => k_is); (case a10 => k_is); (case l10 => k_is); (case c10 => k_is); (case k10 => k_is); (case a11 => k_is); (case l11 => k_is); (case c11 => k_is); (case k11 => k_is); (case a12 => k_is); (case l12 => k_is); (case c12 => k_is); (case k12 => k_is); (case a13 => k_is); (case l13 => k_is); (case c13 => k_is); (case k13 => k_is); (case a14 => k_is); (case l14 => k_is); (case c14 => k_is); (case k14 => k_is); (case a15 => k_is); (case l15 => k_is); (case c15 => k_is); (case k15 => k_is); (case z0 => k_is); (case z1 => k_is); (case z2 => k_is); (case z3 => k_is); (case z4 => k_is); (case z5 => k_is); (case z6 => k_is); (case z7 => k_is); (case z8 => k_is); (case z9 => k_is); (case z10 => k_is)

